import PyProof.Rows.All
import Wide.All
import OpenK.AllK
import Wide.FinOn
import HandS.ForMost
import HandS.Evl
import HandS.Walk
import HandS.IsInst
import HandS.Style
import HandS.Wide
import HandS.SortInts
import HandS.More
import HandS.EndBits
import HandS.Deep
import HandS.Conv
import HandS.Strs
import HandS.SetFor
import KE.RegMulBits
import PySem.Challenge.RW_eitherdoes_k03_whole_passed
set_option Elab.async false
section
set_option Elab.async false
set_option linter.all false
set_option maxRecDepth 100000
set_option maxHeartbeats 2000000
namespace IL
open PySem L2

/-! ### the plain machine: values, objects, a store -/
inductive Va where
  | non | bl (b : Bool) | int (i : Int) | str (s : Str) | ty (n : String) | gl (n : Str) | ref (n : Nat) | scr (ns : List Int) | exc (c : Str)
  deriving DecidableEq
inductive Ob where
  | lst (xs : List Va) | tup (xs : List Va) | dic (es : List (Int × Va)) | obj (c : Str) (fs : List (Str × Va)) | hid
  deriving DecidableEq
abbrev Sto := List Ob
abbrev Env := List (Option Va)
inductive R (α : Type) where
  | ok (a : α) (S : Sto) | ex (c : Str) (S : Sto) | no
def R.bind {α β : Type} (r : R α) (k : α → Sto → R β) : R β := match r with
  | .ok a S => k a S
  | .ex c S => .ex c S
  | .no => .no
@[simp] theorem R.bind_ok {α β : Type} {a : α} {S : Sto} {k : α → Sto → R β} : (R.ok a S).bind k = k a S := rfl
@[simp] theorem R.bind_ex {α β : Type} {c : Str} {S : Sto} {k : α → Sto → R β} : (R.ex c S).bind k = .ex c S := rfl
@[simp] theorem R.bind_no {α β : Type} {k : α → Sto → R β} : (R.no).bind k = .no := rfl
/-- what stands behind a statement -/
inductive O where
  | nx (ρ : Env) (S : Sto) | rt (v : Va) (S : Sto) | ex (c : Str) (ρ : Env) (S : Sto) | no
abbrev IE := Env → Sto → R Va
abbrev IT := Env → Sto → R Bool
abbrev IA := Env → Sto → R (List Va)
abbrev IS := Env → Sto → O
abbrev Fn := List Va → Sto → R Va

/-! ### pairs of lists -/
section
variable {α β : Type} {F : α → β → Prop}
theorem Paired.get : ∀ {xs : List α} {us : List β} {i : Nat} {x : α}, Paired F xs us → xs[i]? = some x → ∃ u, us[i]? = some u ∧ F x u
  | _, _, _, _, .nil, e => by simp at e
  | _, _, 0, _, .cons r _, e => by simp at e; subst e; exact ⟨_, rfl, r⟩
  | _, _, i + 1, x, .cons _ t, e => by
    obtain ⟨u, h1, h2⟩ := Paired.get (i := i) (x := x) t (by simpa using e)
    exact ⟨u, by simpa using h1, h2⟩
theorem Paired.len : ∀ {xs : List α} {us : List β}, Paired F xs us → xs.length = us.length
  | _, _, .nil => rfl
  | _, _, .cons _ t => by simp [Paired.len t]
theorem Paired.set {x : α} {u : β} (r : F x u) : ∀ {xs : List α} {us : List β} (i : Nat), Paired F xs us → Paired F (xs.set i x) (us.set i u)
  | _, _, _, .nil => .nil
  | _, _, 0, .cons _ t => .cons r t
  | _, _, i + 1, .cons q t => .cons q (Paired.set r i t)
theorem Paired.append : ∀ {xs ys : List α} {us ws : List β}, Paired F xs us → Paired F ys ws → Paired F (xs ++ ys) (us ++ ws)
  | _, _, _, _, .nil, s => s
  | _, _, _, _, .cons r t, s => .cons r (Paired.append t s)
theorem Paired.take : ∀ {xs : List α} {us : List β} (n : Nat), Paired F xs us → Paired F (xs.take n) (us.take n)
  | _, _, 0, _ => .nil
  | _, _, _ + 1, .nil => .nil
  | _, _, n + 1, .cons r t => .cons r (Paired.take n t)
theorem Paired.drop : ∀ {xs : List α} {us : List β} (n : Nat), Paired F xs us → Paired F (xs.drop n) (us.drop n)
  | _, _, 0, r => r
  | _, _, _ + 1, .nil => .nil
  | _, _, n + 1, .cons _ t => Paired.drop n t
theorem Paired.reverse : ∀ {xs : List α} {us : List β}, Paired F xs us → Paired F xs.reverse us.reverse
  | _, _, .nil => .nil
  | _, _, .cons r t => by
    rw [List.reverse_cons, List.reverse_cons]
    exact Paired.append (Paired.reverse t) (.cons r .nil)
theorem Paired.rep {xs : List α} {us : List β} (h : Paired F xs us) : ∀ k : Nat, Paired F (List.replicate k xs).flatten (List.replicate k us).flatten
  | 0 => .nil
  | k + 1 => by
    rw [List.replicate_succ, List.replicate_succ, List.flatten_cons, List.flatten_cons]
    exact Paired.append h (Paired.rep h k)
theorem Paired.imp {G : α → β → Prop} (f : ∀ a b, F a b → G a b) : ∀ {xs : List α} {us : List β}, Paired F xs us → Paired G xs us
  | _, _, .nil => .nil
  | _, _, .cons r t => .cons (f _ _ r) (Paired.imp f t)
theorem Paired.atI {xs : List α} {us : List β} {i : Int} {x : α} (r : Paired F xs us) (h : L2.atI xs i = some x) : ∃ u, L2.atI us i = some u ∧ F x u := by
  unfold L2.atI at h ⊢
  rw [← Paired.len r]
  cases e : ixN xs.length i with
  | none => rw [e] at h; cases h
  | some k => rw [e] at h; exact Paired.get r h
end

/-! ### the tie to the abstract heap -/
structure Gm where
  γ : Str → Addr
  K : PySem.W.Frag
  a0 : Addr
  ns : List Int
def Le (ι ι' : List Addr) : Prop := ∀ (n : Nat) (a : Addr), ι[n]? = some a → ι'[n]? = some a
theorem Le.refl (ι : List Addr) : Le ι ι := fun _ _ h => h
theorem Le.trans {ι ι1 ι2 : List Addr} (a : Le ι ι1) (b : Le ι1 ι2) : Le ι ι2 := fun n x h => b n x (a n x h)
theorem Le.snoc (ι : List Addr) (p : Addr) : Le ι (ι ++ [p]) := fun n a h => by
  rw [List.getElem?_append_left (List.getElem?_eq_some_iff.mp h).1]; exact h
def VR (g : Gm) (ι : List Addr) : Va → V → Prop
  | .non, v => v = .non
  | .bl b, v => v = .bl b
  | .int i, v => v = .int i
  | .str s, v => v = .str s
  | .ty n, v => v = .ty n
  | .gl n, v => v = .ref (g.γ n)
  | .ref n, v => ∃ a, ι[n]? = some a ∧ v = .ref a
  | .scr ns, v => v = .ref g.a0 ∧ ns = g.ns
  | .exc _, _ => False
abbrev VRs (g : Gm) (ι : List Addr) : List Va → List V → Prop := Paired (VR g ι)
def KR (g : Gm) (ι : List Addr) (e : Int × Va) (kv : Key × V) : Prop := kv.1 = .inl e.1 ∧ VR g ι e.2 kv.2
def FR (g : Gm) (ι : List Addr) (e : Str × Va) (kv : Str × V) : Prop := kv.1 = e.1 ∧ VR g ι e.2 kv.2
section
variable {g : Gm} {ι ι' : List Addr}
theorem VR.mono (le : Le ι ι') {x : Va} {v : V} (h : VR g ι x v) : VR g ι' x v := by
  cases x with
  | ref n => obtain ⟨a, h1, h2⟩ := h; exact ⟨a, le n a h1, h2⟩
  | _ => exact h
theorem VRs.mono (le : Le ι ι') {x : List Va} {v : List V} (h : VRs g ι x v) : VRs g ι' x v := Paired.imp (fun _ _ => VR.mono le) h
def ObR (g : Gm) (ι : List Addr) (H : Hp) (a : Addr) : Ob → Prop
  | .lst xs => ∃ vs, H a = some (.lst vs) ∧ VRs g ι xs vs
  | .tup xs => ∃ vs, H a = some (.tup vs) ∧ VRs g ι xs vs
  | .dic es => ∃ kvs, H a = some (.dK kvs) ∧ Paired (KR g ι) es kvs
  | .obj c fs => ∃ dx vs, H a = some (.ins (g.γ c) dx vs) ∧ Paired (FR g ι) fs vs
  | .hid => H a ≠ none
/-- what is frozen stays -/
def Frz (H H' : Hp) : Prop := ∀ b o u, H b = some (.frz o u) → H' b = some (.frz o u)
theorem Frz.refl (H : Hp) : Frz H H := fun _ _ _ h => h
theorem Frz.trans {H H1 H2 : Hp} (a : Frz H H1) (b : Frz H1 H2) : Frz H H2 := fun c o u h => b c o u (a c o u h)
theorem Frz.upd {H : Hp} {p : Addr} {o : HO} (h : ∀ ob u, H p ≠ some (.frz ob u)) : Frz H (upd H p o) := fun b ob u e => by
  rw [upd_ne (fun z => by subst z; exact h ob u e)]; exact e
structure Sim (g : Gm) (ι : List Addr) (S : Sto) (H : Hp) : Prop where
  nd : ι.Nodup
  len : ι.length = S.length
  ob : ∀ (n : Nat) (o : Ob) (a : Addr), S[n]? = some o → ι[n]? = some a → ObR g ι H a o
  sc : ∀ H', Frz H H' → SqL g.K H' g.a0 (g.ns.map V.int)
theorem ObR.mono {H : Hp} {a : Addr} {o : Ob} (le : Le ι ι') (h : ObR g ι H a o) : ObR g ι' H a o := by
  cases o with
  | lst xs => obtain ⟨vs, h1, h2⟩ := h; exact ⟨vs, h1, h2.mono le⟩
  | tup xs => obtain ⟨vs, h1, h2⟩ := h; exact ⟨vs, h1, h2.mono le⟩
  | dic es => obtain ⟨vs, h1, h2⟩ := h; exact ⟨vs, h1, Paired.imp (fun _ _ q => ⟨q.1, q.2.mono le⟩) h2⟩
  | obj c fs => obtain ⟨dx, vs, h1, h2⟩ := h; exact ⟨dx, vs, h1, Paired.imp (fun _ _ q => ⟨q.1, q.2.mono le⟩) h2⟩
  | hid => exact h
theorem ObR.heap {H H' : Hp} {a : Addr} {o : Ob} (e : H' a = H a) (h : ObR g ι H a o) : ObR g ι H' a o := by
  cases o <;> simp only [ObR, e] at h ⊢ <;> exact h
theorem ObR.there {H : Hp} {a : Addr} {o : Ob} (h : ObR g ι H a o) : H a ≠ none := by
  cases o with
  | lst xs => obtain ⟨vs, h1, h2⟩ := h; rw [h1]; intro z; cases z
  | tup xs => obtain ⟨vs, h1, h2⟩ := h; rw [h1]; intro z; cases z
  | dic es => obtain ⟨vs, h1, h2⟩ := h; rw [h1]; intro z; cases z
  | obj c fs => obtain ⟨dx, vs, h1, h2⟩ := h; rw [h1]; intro z; cases z
  | hid => exact h
variable {S : Sto} {H : Hp}
theorem Sim.at_ (s : Sim g ι S H) {n : Nat} {o : Ob} (e : S[n]? = some o) : ∃ a, ι[n]? = some a ∧ ObR g ι H a o := by
  have h : n < ι.length := by rw [s.len]; exact (List.getElem?_eq_some_iff.mp e).1
  exact ⟨ι[n], by simp [h], s.ob n o _ e (by simp [h])⟩
theorem Sim.ref {n : Nat} {o : Ob} {v : V} (s : Sim g ι S H) (e : S[n]? = some o) (h : VR g ι (.ref n) v) : ∃ a, v = .ref a ∧ ι[n]? = some a ∧ ObR g ι H a o := by
  obtain ⟨a, h1, h2⟩ := h
  exact ⟨a, h2, h1, s.ob n o a e h1⟩
theorem Sim.scr (s : Sim g ι S H) : SqL g.K H g.a0 (g.ns.map V.int) := s.sc H (Frz.refl H)
theorem Sim.fresh (s : Sim g ι S H) {p : Addr} (h : H p = none) : p ∉ ι := fun hp => by
  obtain ⟨n, hn⟩ := List.mem_iff_getElem?.mp hp
  have : n < S.length := by rw [← s.len]; exact (List.getElem?_eq_some_iff.mp hn).1
  exact (s.ob n S[n] p (by simp [this]) hn).there h
/-- a new name -/
theorem Sim.join (s : Sim g ι S H) {p : Addr} {o : Ob} {u : HO} (hp : p ∉ ι) (hf : ∀ ob u, H p ≠ some (.frz ob u)) (h : ObR g (ι ++ [p]) (upd H p u) p o) : Sim g (ι ++ [p]) (S ++ [o]) (upd H p u) := by
  refine ⟨?_, by simp [s.len], fun n o' a e1 e2 => ?_, fun H' f => s.sc H' ((Frz.upd hf).trans f)⟩
  · rw [List.nodup_append]
    exact ⟨s.nd, by simp, fun a ha b hb => by rw [List.mem_singleton] at hb; rintro rfl; exact hp (hb ▸ ha)⟩
  · by_cases hn : n < S.length
    · rw [List.getElem?_append_left hn] at e1
      rw [List.getElem?_append_left (by rw [s.len]; exact hn)] at e2
      refine ((s.ob n o' a e1 e2).mono (Le.snoc ι p)).heap (upd_ne fun z => ?_)
      exact hp (z ▸ List.mem_of_getElem? e2)
    · have hl : n = S.length := by
        have := (List.getElem?_eq_some_iff.mp e1).1
        simp at this; omega
      subst hl
      rw [List.getElem?_concat_length] at e1
      rw [← s.len, List.getElem?_concat_length] at e2
      cases e1; cases e2
      exact h
/-- a new object -/
theorem Sim.alloc (s : Sim g ι S H) {p : Addr} {o : Ob} {u : HO} (hp : H p = none) (h : ObR g (ι ++ [p]) (upd H p u) p o) : Sim g (ι ++ [p]) (S ++ [o]) (upd H p u) :=
  s.join (s.fresh hp) (fun ob u z => by rw [hp] at z; cases z) h
theorem Sim.lst (s : Sim g ι S H) {p : Addr} {xs : List Va} {vs : List V} (hp : H p = none) (h : VRs g ι xs vs) : Sim g (ι ++ [p]) (S ++ [.lst xs]) (upd H p (.lst vs)) :=
  s.alloc hp ⟨vs, upd_same, h.mono (Le.snoc ι p)⟩
theorem Sim.tup (s : Sim g ι S H) {p : Addr} {xs : List Va} {vs : List V} (hp : H p = none) (h : VRs g ι xs vs) : Sim g (ι ++ [p]) (S ++ [.tup xs]) (upd H p (.tup vs)) :=
  s.alloc hp ⟨vs, upd_same, h.mono (Le.snoc ι p)⟩
theorem Sim.newRef (s : Sim g ι S H) {p : Addr} : VR g (ι ++ [p]) (.ref S.length) (.ref p) := ⟨p, by rw [← s.len, List.getElem?_concat_length], rfl⟩
/-- an object that no index names -/
theorem Sim.more (s : Sim g ι S H) {p : Addr} {u : HO} (hp : H p = none) : Sim g ι S (upd H p u) :=
  ⟨s.nd, s.len, fun n o a e1 e2 => (s.ob n o a e1 e2).heap (upd_ne fun z => s.fresh hp (z ▸ List.mem_of_getElem? e2)), fun H' f => s.sc H' ((Frz.upd (fun ob u z => by rw [hp] at z; cases z)).trans f)⟩
/-- .. changed -/
theorem Sim.other (s : Sim g ι S H) {p : Addr} {u : HO} (hp : p ∉ ι) (hf : ∀ ob u, H p ≠ some (.frz ob u)) : Sim g ι S (upd H p u) :=
  ⟨s.nd, s.len, fun n o a e1 e2 => (s.ob n o a e1 e2).heap (upd_ne fun z => hp (z ▸ List.mem_of_getElem? e2)), fun H' f => s.sc H' ((Frz.upd hf).trans f)⟩
/-- an object changed -/
theorem Sim.put (s : Sim g ι S H) {n : Nat} {a : Addr} {o : Ob} {u : HO} (e : ι[n]? = some a) (hf : ∀ ob u, H a ≠ some (.frz ob u)) (h : ObR g ι (upd H a u) a o) : Sim g ι (S.set n o) (upd H a u) := by
  refine ⟨s.nd, by simp [s.len], fun m o' b e1 e2 => ?_, fun H' f => s.sc H' ((Frz.upd hf).trans f)⟩
  by_cases hm : n = m
  · subst hm
    rw [e] at e2; cases e2
    have hn : n < S.length := by rw [← s.len]; exact (List.getElem?_eq_some_iff.mp e).1
    rw [List.getElem?_set_self hn] at e1
    cases e1
    exact h
  · rw [List.getElem?_set_ne hm] at e1
    refine (s.ob m o' b e1 e2).heap (upd_ne fun z => hm ?_)
    subst z
    obtain ⟨h1, e1'⟩ := List.getElem?_eq_some_iff.mp e
    obtain ⟨h2, e2'⟩ := List.getElem?_eq_some_iff.mp e2
    exact (List.getElem_inj s.nd).mp (e1'.trans e2'.symm)
/-- slots -/
structure ER (g : Gm) (ι : List Addr) (ρ : Env) (σ : St) : Prop where
  len : ρ.length = σ.length
  at_ : ∀ (i : Nat) (x : Va), ρ[i]? = some (some x) → ∃ v, σ[i]? = some (some v) ∧ VR g ι x v
theorem ER.mono {ρ : Env} {σ : St} (le : Le ι ι') (h : ER g ι ρ σ) : ER g ι' ρ σ := ⟨h.len, fun i x e => let ⟨v, h1, h2⟩ := h.at_ i x e; ⟨v, h1, h2.mono le⟩⟩
theorem ER.set {ρ : Env} {σ : St} {x : Va} {v : V} (h : ER g ι ρ σ) (i : Nat) (r : VR g ι x v) : ER g ι (ρ.set i (some x)) (σ.set i (some v)) := by
  refine ⟨by simp [h.len], fun j y e => ?_⟩
  by_cases hj : i = j
  · subst hj
    have hi : i < ρ.length := by
      have := (List.getElem?_eq_some_iff.mp e).1
      simpa using this
    rw [List.getElem?_set_self hi] at e
    cases e
    exact ⟨v, by rw [List.getElem?_set_self (by rw [← h.len]; exact hi)], r⟩
  · rw [List.getElem?_set_ne hj] at e ⊢
    exact h.at_ j y e
theorem ER.unset {ρ : Env} {σ : St} {o : Option V} (h : ER g ι ρ σ) (i : Nat) : ER g ι (ρ.set i none) (σ.set i o) := by
  refine ⟨by simp [h.len], fun j y e => ?_⟩
  by_cases hj : i = j
  · subst hj
    have hi : i < ρ.length := by
      have := (List.getElem?_eq_some_iff.mp e).1
      simpa using this
    rw [List.getElem?_set_self hi] at e
    cases e
  · rw [List.getElem?_set_ne hj] at e ⊢
    exact h.at_ j y e

/-! ### what is wanted behind a run of the plain machine -/
/-- the indices grow; what they do not name stays and stays unnamed -/
structure Ext (ι : List Addr) (H : Hp) (ι' : List Addr) (H' : Hp) : Prop where
  le : Le ι ι'
  fr : ∀ a, a ∉ ι → H a ≠ none → a ∉ ι' ∧ H' a = H a
  fz : Frz H H'
theorem Ext.refl (ι : List Addr) (H : Hp) : Ext ι H ι H := ⟨Le.refl _, fun _ h _ => ⟨h, rfl⟩, Frz.refl _⟩
theorem Ext.trans {ι ι1 ι2 : List Addr} {H H1 H2 : Hp} (a : Ext ι H ι1 H1) (b : Ext ι1 H1 ι2 H2) : Ext ι H ι2 H2 := ⟨a.le.trans b.le, fun x h1 h2 => by
  obtain ⟨p, q⟩ := a.fr x h1 h2
  obtain ⟨p', q'⟩ := b.fr x p (by rw [q]; exact h2)
  exact ⟨p', q'.trans q⟩, a.fz.trans b.fz⟩
theorem Frz.new {H : Hp} {p : Addr} {u : HO} (hp : H p = none) : Frz H (L2.upd H p u) := Frz.upd fun ob u z => by rw [hp] at z; cases z
theorem Ext.snoc {ι : List Addr} {H : Hp} {p : Addr} {u : HO} (hp : H p = none) : Ext ι H (ι ++ [p]) (upd H p u) := ⟨Le.snoc ι p, fun a h1 h2 => by
  have hap : a ≠ p := fun z => h2 (z ▸ hp)
  exact ⟨fun z => (List.mem_append.mp z).elim h1 fun z => hap (List.mem_singleton.mp z), upd_ne hap⟩, Frz.new hp⟩
theorem Ext.put {ι : List Addr} {H : Hp} {n : Nat} {p : Addr} {u : HO} (e : ι[n]? = some p) (hf : ∀ ob u, H p ≠ some (.frz ob u)) : Ext ι H ι (upd H p u) := ⟨Le.refl _, fun a h1 h2 => ⟨h1, upd_ne fun z => h1 (z ▸ List.mem_of_getElem? e)⟩, Frz.upd hf⟩
theorem Ext.new {ι : List Addr} {H : Hp} {p : Addr} {u : HO} (hp : H p = none) : Ext ι H ι (upd H p u) := ⟨Le.refl _, fun a h1 h2 => ⟨h1, upd_ne fun z => h2 (z ▸ hp)⟩, Frz.new hp⟩
def P {α : Type} (g : Gm) (ι : List Addr) (H : Hp) (W : Str → Hp → Prop) (T : α → List Addr → Hp → Prop) : R α → Prop
  | .ok x S' => ∀ ι' H', Ext ι H ι' H' → Sim g ι' S' H' → T x ι' H'
  | .ex c S' => ∀ ι' H', Ext ι H ι' H' → Sim g ι' S' H' → W c H'
  | .no => False
variable {α β : Type} {W : Str → Hp → Prop} {T : β → List Addr → Hp → Prop} {H' : Hp}
theorem P.le {r : R β} (le : Ext ι H ι' H') (h : P g ι H W T r) : P g ι' H' W T r := by
  cases r with
  | ok x S' => exact fun ι2 H2 l s => h ι2 H2 (le.trans l) s
  | ex c S' => exact fun ι2 H2 l s => h ι2 H2 (le.trans l) s
  | no => exact h
theorem P.mono {r : R β} {T' : β → List Addr → Hp → Prop} (h : P g ι H W T r) (f : ∀ x ι' H', Ext ι H ι' H' → T x ι' H' → T' x ι' H') : P g ι H W T' r := by
  cases r with
  | ok x S' => exact fun ι2 H2 l s => f x ι2 H2 l (h ι2 H2 l s)
  | ex c S' => exact h
  | no => exact h
theorem P.bind {r : R α} {k : α → Sto → R β} (h : P g ι H W T (r.bind k)) : P g ι H W (fun x ι' H' => ∃ S', Sim g ι' S' H' ∧ P g ι' H' W T (k x S')) r := by
  cases r with
  | ok x S' => exact fun ι2 H2 l s => ⟨S', s, P.le l h⟩
  | ex c S' => exact h
  | no => exact h
/-- a run from a later state, then more, the first state's wish kept -/
theorem P.thenB {ι0 : List Addr} {H0 : Hp} {r : R α} {k : α → Sto → R β} {T' : α → List Addr → Hp → Prop} (e0 : Ext ι H ι0 H0) (h : P g ι H W T (r.bind k)) (f : ∀ x ι' S' H', Ext ι0 H0 ι' H' → Sim g ι' S' H' → P g ι H W T (k x S') → T' x ι' H') : P g ι0 H0 W T' r := by
  cases r with
  | ok x S' => exact fun ι2 H2 l s => f x ι2 S' H2 l s h
  | ex c S' => exact fun ι2 H2 l s => h ι2 H2 (e0.trans l) s
  | no => exact h
/-- an object joins at the end -/
theorem Ext.join {ι ι2 : List Addr} {H H2 : Hp} {p : Addr} {u v : HO} (hp : H p = none) (e : Ext ι (upd H p u) ι2 H2) : Ext ι H (ι2 ++ [p]) (upd H2 p v) := ⟨e.le.trans (Le.snoc _ _), fun a h1 h2 => by
  have hap : a ≠ p := fun z => h2 (z ▸ hp)
  obtain ⟨x, y⟩ := e.fr a h1 (by rw [upd_ne hap]; exact h2)
  rw [upd_ne hap] at y ⊢
  exact ⟨fun z => (List.mem_append.mp z).elim x fun z => hap (List.mem_singleton.mp z), y⟩, fun b ob w hb => by
  have hbp : b ≠ p := fun z => by rw [z, hp] at hb; cases hb
  rw [upd_ne hbp]
  exact e.fz b ob w (by rw [upd_ne hbp]; exact hb)⟩
/-- a run, then more -/
theorem P.then {r : R α} {k : α → Sto → R β} {T' : α → List Addr → Hp → Prop} (h : P g ι H W T (r.bind k)) (f : ∀ x ι' S' H', Ext ι H ι' H' → Sim g ι' S' H' → P g ι' H' W T (k x S') → T' x ι' H') : P g ι H W T' r :=
  h.bind.mono fun x ι' H' l ⟨S', s, q⟩ => f x ι' S' H' l s q
end

abbrev WH := Str → St → Hp → Prop
/-- no exception is wished for -/
def W0 : WH := fun _ _ _ => False
def SdE (g : Gm) (W : WH) (t : TE) (i : IE) : Prop := ∀ ι ρ S σ H (Q : VK), Sim g ι S H → ER g ι ρ σ → P g ι H (W · σ) (fun x ι' H' => ∀ v, VR g ι' x v → Q v H') (i ρ S) → t σ H Q
def SdT (g : Gm) (W : WH) (t : TT) (i : IT) : Prop := ∀ ι ρ S σ H (Q : Bool → Hp → Prop), Sim g ι S H → ER g ι ρ σ → P g ι H (W · σ) (fun b _ H' => Q b H') (i ρ S) → t σ H Q
def SdA (g : Gm) (W : WH) (t : TA) (i : IA) : Prop := ∀ ι ρ S σ H (Q : List V → Hp → Prop), Sim g ι S H → ER g ι ρ σ → P g ι H (W · σ) (fun x ι' H' => ∀ v, VRs g ι' x v → Q v H') (i ρ S) → t σ H Q
def SdR (g : Gm) (W : WH) (r : R2) (f : Va → Va → Sto → R Va) : Prop := ∀ ι S H x y v u σ (Q : VK), Sim g ι S H → VR g ι x v → VR g ι y u → P g ι H (W · σ) (fun x ι' H' => ∀ v, VR g ι' x v → Q v H') (f x y S) → r v u H Q
def SdC (g : Gm) (W : WH) (r : List V → Hp → VK → Prop) (f : List Va → Sto → R Va) : Prop := ∀ ι S H xs vs σ (Q : VK), Sim g ι S H → VRs g ι xs vs → P g ι H (W · σ) (fun x ι' H' => ∀ v, VR g ι' x v → Q v H') (f xs S) → r vs H Q
def SdM (g : Gm) (W : WH) (r : V → List V → Hp → VK → Prop) (f : Va → List Va → Sto → R Va) : Prop := ∀ ι S H x v xs vs σ (Q : VK), Sim g ι S H → VR g ι x v → VRs g ι xs vs → P g ι H (W · σ) (fun x ι' H' => ∀ v, VR g ι' x v → Q v H') (f x xs S) → r v vs H Q

/-! ### expressions -/
def iVar (i : Nat) : IE := fun ρ S => match ρ[i]? with
  | some (some v) => .ok v S
  | _ => .no
def iC (v : Va) : IE := fun _ S => .ok v S
def iOp (f : Va → Va → Sto → R Va) (a b : IE) : IE := fun ρ S => (a ρ S).bind fun x S1 => (b ρ S1).bind fun y S2 => f x y S2
def iUn (f : Va → Sto → R Va) (a : IE) : IE := fun ρ S => (a ρ S).bind fun x S1 => f x S1
def iNil : IA := fun _ S => .ok [] S
def iCons (a : IE) (r : IA) : IA := fun ρ S => (a ρ S).bind fun x S1 => (r ρ S1).bind fun xs S2 => .ok (x :: xs) S2
def iLst (a : IA) : IE := fun ρ S => (a ρ S).bind fun xs S1 => .ok (.ref S1.length) (S1 ++ [.lst xs])
def iTup (a : IA) : IE := fun ρ S => (a ρ S).bind fun xs S1 => .ok (.ref S1.length) (S1 ++ [.tup xs])
def iCB (f : List Va → Sto → R Va) (a : IA) : IE := fun ρ S => (a ρ S).bind fun xs S1 => f xs S1
def asB : Va → Sto → R Bool
  | .bl b, S => .ok b S
  | _, _ => .no
def iB (a : IE) : IT := fun ρ S => (a ρ S).bind asB
def iAnd (a b : IT) : IT := fun ρ S => (a ρ S).bind fun c S1 => if c = true then b ρ S1 else .ok false S1
def iOr (a b : IT) : IT := fun ρ S => (a ρ S).bind fun c S1 => if c = true then .ok true S1 else b ρ S1
def iNot (a : IT) : IT := fun ρ S => (a ρ S).bind fun c S1 => .ok (!c) S1
def iYes : IT := fun _ S => .ok true S
def iAndV (a b : IE) : IE := fun ρ S => (a ρ S).bind fun x S1 => (asB x S1).bind fun c S1 => if c = true then b ρ S1 else .ok (.bl false) S1
def iOrV (a b : IE) : IE := fun ρ S => (a ρ S).bind fun x S1 => (asB x S1).bind fun c S1 => if c = true then .ok (.bl true) S1 else b ρ S1
def iNotV (a : IE) : IE := fun ρ S => (a ρ S).bind fun x S1 => (asB x S1).bind fun c S1 => .ok (.bl (!c)) S1
def iIf (t : IT) (a b : IE) : IE := fun ρ S => (t ρ S).bind fun c S1 => if c = true then a ρ S1 else b ρ S1
def iChain (f f' : Va → Va → Sto → R Va) (a b c : IE) : IE := fun ρ S => (a ρ S).bind fun x S1 => (b ρ S1).bind fun y S2 => (f x y S2).bind fun z S3 => (asB z S3).bind fun k S3 =>
  if k = true then (c ρ S3).bind fun w S4 => f' y w S4 else .ok (.bl false) S3

section
variable {g : Gm} {W : WH} {te ta tb tc : TE} {ia ib ic : IE} {tt tu : TT} {it iu : IT}
theorem asB_inv {α : Type} {ι : List Addr} {H : Hp} {W : Str → Hp → Prop} {x : Va} {S : Sto} {T : α → List Addr → Hp → Prop} {k : Bool → Sto → R α} (h : P g ι H W T ((asB x S).bind k)) : ∃ b, x = .bl b ∧ P g ι H W T (k b S) := by
  cases x with
  | bl b => exact ⟨b, rfl, h⟩
  | _ => exact h.elim
theorem sd_var {i : Nat} : SdE g W (tVar i) (iVar i) := fun ι ρ S σ H Q s e h => by
  unfold iVar at h
  split at h
  · rename_i v hv
    obtain ⟨u, h1, h2⟩ := e.at_ i v hv
    exact ⟨u, h1, h ι H (Ext.refl _ _) s u h2⟩
  · exact h.elim
theorem sd_c {v : V} {x : Va} (hv : ∀ ι, VR g ι x v) : SdE g W (tC v) (iC x) := fun ι ρ S σ H Q s e h => h ι H (Ext.refl _ _) s v (hv ι)
theorem sd_int {i : Int} : SdE g W (tC (.int i)) (iC (.int i)) := sd_c fun _ => rfl
theorem sd_bl {i : Bool} : SdE g W (tC (.bl i)) (iC (.bl i)) := sd_c fun _ => rfl
theorem sd_str {i : Str} : SdE g W (tC (.str i)) (iC (.str i)) := sd_c fun _ => rfl
theorem sd_non : SdE g W (tC .non) (iC .non) := sd_c fun _ => rfl
theorem sd_ty {n : String} : SdE g W (tC (.ty n)) (iC (.ty n)) := sd_c fun _ => rfl
theorem sd_gl {n : Str} {a : Addr} (h : g.γ n = a) : SdE g W (tC (.ref a)) (iC (.gl n)) := sd_c fun _ => by rw [← h]; rfl
theorem sd_op {r : R2} {f : Va → Va → Sto → R Va} (hr : SdR g W r f) (ha : SdE g W ta ia) (hb : SdE g W tb ib) : SdE g W (tOp r ta tb) (iOp f ia ib) := fun ι ρ S σ H Q s e h =>
  ha ι ρ S σ H _ s e (h.then fun x ι1 S1 H1 l s1 h1 v vr => hb ι1 ρ S1 σ H1 _ s1 (e.mono l.le) (h1.then fun y ι2 S2 H2 l2 s2 h2 u ur => hr ι2 S2 H2 x y v u σ Q s2 (vr.mono l2.le) ur h2))
theorem sd_nil : SdA g W tNil iNil := fun ι ρ S σ H Q s e h => h ι H (Ext.refl _ _) s [] .nil
theorem sd_cons {t : TA} {i : IA} (ha : SdE g W ta ia) (hr : SdA g W t i) : SdA g W (tCons ta t) (iCons ia i) := fun ι ρ S σ H Q s e h =>
  ha ι ρ S σ H _ s e (h.then fun x ι1 S1 H1 l s1 h1 v vr => hr ι1 ρ S1 σ H1 _ s1 (e.mono l.le) (h1.then fun y ι2 S2 H2 l2 s2 h2 u ur => h2 ι2 H2 (Ext.refl _ _) s2 _ (.cons (vr.mono l2.le) ur)))
theorem sz {n : Nat} (h : n ≤ 100000) : n ≤ sizeLine := Evl.sz_of h
theorem sd_lst {t : TA} {i : IA} (n : Nat) (hl : ∀ ρ S xs S', i ρ S = .ok xs S' → xs.length = n) (hn : n ≤ 100000) (ha : SdA g W t i) : SdE g W (tLst t) (iLst i) := fun ι ρ S σ H Q s e h => by
  refine ha ι ρ S σ H _ s e ?_
  unfold iLst at h
  cases hi : i ρ S with
  | ok xs S1 =>
    rw [hi] at h
    intro ι1 H1 l s1 vs vr
    refine ⟨sz (by rw [← Paired.len vr, hl _ _ _ _ hi]; exact hn), fun p hp => ?_⟩
    exact h _ _ (l.trans (Ext.snoc hp)) (s1.lst hp vr) _ s1.newRef
  | ex c S1 => rw [hi] at h; exact h
  | no => rw [hi] at h; exact h
theorem sd_tup {t : TA} {i : IA} (n : Nat) (hl : ∀ ρ S xs S', i ρ S = .ok xs S' → xs.length = n) (hn : n ≤ 100000) (ha : SdA g W t i) : SdE g W (tTup t) (iTup i) := fun ι ρ S σ H Q s e h => by
  refine ha ι ρ S σ H _ s e ?_
  unfold iTup at h
  cases hi : i ρ S with
  | ok xs S1 =>
    rw [hi] at h
    intro ι1 H1 l s1 vs vr
    refine ⟨sz (by rw [← Paired.len vr, hl _ _ _ _ hi]; exact hn), fun p hp => ?_⟩
    exact h _ _ (l.trans (Ext.snoc hp)) (s1.tup hp vr) _ s1.newRef
  | ex c S1 => rw [hi] at h; exact h
  | no => rw [hi] at h; exact h
theorem len_nil (ρ : Env) (S : Sto) (xs : List Va) (S' : Sto) (h : iNil ρ S = .ok xs S') : xs.length = 0 := by cases h; rfl
theorem len_cons {i : IA} {n : Nat} (hl : ∀ ρ S xs S', i ρ S = .ok xs S' → xs.length = n) (ρ : Env) (S : Sto) (xs : List Va) (S' : Sto) (h : iCons ia i ρ S = .ok xs S') : xs.length = n + 1 := by
  unfold iCons at h
  cases h1 : ia ρ S with
  | ok x S1 =>
    rw [h1, R.bind_ok] at h
    cases h2 : i ρ S1 with
    | ok ys S2 => rw [h2, R.bind_ok] at h; cases h; rw [List.length_cons, hl _ _ _ _ h2]
    | ex c S2 => rw [h2] at h; cases h
    | no => rw [h2] at h; cases h
  | ex c S1 => rw [h1] at h; cases h
  | no => rw [h1] at h; cases h
theorem sd_cb {r : List V → Hp → VK → Prop} {f : List Va → Sto → R Va} {t : TA} {i : IA} (hr : SdC g W r f) (ha : SdA g W t i) : SdE g W (tCB r t) (iCB f i) := fun ι ρ S σ H Q s e h =>
  ha ι ρ S σ H _ s e (h.then fun x ι1 S1 H1 l s1 h1 v vr => hr ι1 S1 H1 x v σ Q s1 vr h1)
theorem sd_un {r : V → Hp → VK → Prop} {f : Va → Sto → R Va} (hr : ∀ ι S H x v σ (Q : VK), Sim g ι S H → VR g ι x v → P g ι H (W · σ) (fun x ι' H' => ∀ v, VR g ι' x v → Q v H') (f x S) → r v H Q) (ha : SdE g W ta ia) : SdE g W (tUn r ta) (iUn f ia) := fun ι ρ S σ H Q s e h =>
  ha ι ρ S σ H _ s e (h.then fun x ι1 S1 H1 l s1 h1 v vr => hr ι1 S1 H1 x v σ Q s1 vr h1)
/-! tests -/
theorem sd_test (ha : SdE g W ta ia) : SdT g W (tTest ta) (iB ia) := fun ι ρ S σ H Q s e h =>
  ha ι ρ S σ H _ s e (h.then fun x ι1 S1 H1 l s1 h1 v vr => by
    cases x with
    | bl b => exact ⟨b, vr, h1 ι1 H1 (Ext.refl _ _) s1⟩
    | _ => exact h1.elim)
theorem sd_tB (ha : SdE g W ta ia) : SdT g W (tB ta) (iB ia) := sd_test ha
theorem sd_tru (ha : SdE g W ta ia) : SdT g W (fun σ H Q => ta σ H fun x H' => ∃ k, TruV g.K x H' k ∧ Q k H') (iB ia) := fun ι ρ S σ H Q s e h =>
  ha ι ρ S σ H _ s e (h.then fun x ι1 S1 H1 l s1 h1 v vr => by
    cases x with
    | bl b => cases vr; exact ⟨b, rfl, h1 ι1 H1 (Ext.refl _ _) s1⟩
    | _ => exact h1.elim)
theorem sd_and (ha : SdT g W tt it) (hb : SdT g W tu iu) : SdT g W (tAnd tt tu) (iAnd it iu) := fun ι ρ S σ H Q s e h =>
  ha ι ρ S σ H _ s e (h.then fun c ι1 S1 H1 l s1 h1 => by
    cases c with
    | true => exact hb ι1 ρ S1 σ H1 Q s1 (e.mono l.le) h1
    | false => exact h1 ι1 H1 (Ext.refl _ _) s1)
theorem sd_or (ha : SdT g W tt it) (hb : SdT g W tu iu) : SdT g W (tOr tt tu) (iOr it iu) := fun ι ρ S σ H Q s e h =>
  ha ι ρ S σ H _ s e (h.then fun c ι1 S1 H1 l s1 h1 => by
    cases c with
    | false => exact hb ι1 ρ S1 σ H1 Q s1 (e.mono l.le) h1
    | true => exact h1 ι1 H1 (Ext.refl _ _) s1)
theorem sd_not (ha : SdT g W tt it) : SdT g W (tNot tt) (iNot it) := fun ι ρ S σ H Q s e h =>
  ha ι ρ S σ H _ s e (h.then fun c ι1 S1 H1 l s1 h1 => h1 ι1 H1 (Ext.refl _ _) s1)
theorem sd_yes : SdT g W tYes iYes := fun ι ρ S σ H Q s e h => h ι H (Ext.refl _ _) s
theorem sd_andV (ha : SdE g W ta ia) (hb : SdE g W tb ib) : SdE g W (tAndV ta tb) (iAndV ia ib) := fun ι ρ S σ H Q s e h =>
  ha ι ρ S σ H _ s e (h.then fun x ι1 S1 H1 l s1 h1 v vr => by
    obtain ⟨b, rfl, h2⟩ := asB_inv h1
    refine ⟨b, vr, ?_⟩
    cases b with
    | true => exact hb ι1 ρ S1 σ H1 Q s1 (e.mono l.le) h2
    | false => exact h2 ι1 H1 (Ext.refl _ _) s1 _ rfl)
theorem sd_orV (ha : SdE g W ta ia) (hb : SdE g W tb ib) : SdE g W (tOrV ta tb) (iOrV ia ib) := fun ι ρ S σ H Q s e h =>
  ha ι ρ S σ H _ s e (h.then fun x ι1 S1 H1 l s1 h1 v vr => by
    obtain ⟨b, rfl, h2⟩ := asB_inv h1
    refine ⟨b, vr, ?_⟩
    cases b with
    | false => exact hb ι1 ρ S1 σ H1 Q s1 (e.mono l.le) h2
    | true => exact h2 ι1 H1 (Ext.refl _ _) s1 _ rfl)
theorem sd_notV (ha : SdE g W ta ia) : SdE g W (tNotV ta) (iNotV ia) := fun ι ρ S σ H Q s e h =>
  ha ι ρ S σ H _ s e (h.then fun x ι1 S1 H1 l s1 h1 v vr => by
    obtain ⟨b, rfl, h2⟩ := asB_inv h1
    exact ⟨b, vr, h2 ι1 H1 (Ext.refl _ _) s1 _ rfl⟩)
theorem sd_if (ht : SdT g W tt it) (ha : SdE g W ta ia) (hb : SdE g W tb ib) : SdE g W (tIf tt ta tb) (iIf it ia ib) := fun ι ρ S σ H Q s e h =>
  ht ι ρ S σ H _ s e (h.then fun c ι1 S1 H1 l s1 h1 => by
    cases c with
    | true => exact ha ι1 ρ S1 σ H1 Q s1 (e.mono l.le) h1
    | false => exact hb ι1 ρ S1 σ H1 Q s1 (e.mono l.le) h1)
theorem sd_chain {r r' : R2} {f f' : Va → Va → Sto → R Va} (hr : SdR g W r f) (hr' : SdR g W r' f') (ha : SdE g W ta ia) (hb : SdE g W tb ib) (hc : SdE g W tc ic) : SdE g W (tChain r r' ta tb tc) (iChain f f' ia ib ic) := fun ι ρ S σ H Q s e h =>
  ha ι ρ S σ H _ s e (h.then fun x ι1 S1 H1 l s1 h1 v vr => hb ι1 ρ S1 σ H1 _ s1 (e.mono l.le) (h1.then fun y ι2 S2 H2 l2 s2 h2 u ur =>
    hr ι2 S2 H2 x y v u σ _ s2 (vr.mono l2.le) ur (h2.then fun z ι3 S3 H3 l3 s3 h3 w wr => by
      obtain ⟨b, rfl, h4⟩ := asB_inv h3
      refine ⟨b, wr, ?_⟩
      cases b with
      | true => exact hc ι3 ρ S3 σ H3 _ s3 (e.mono (l.trans (l2.trans l3)).le) (h4.then fun z ι4 S4 H4 l4 s4 h5 w wr => hr' ι4 S4 H4 y z u w σ Q s4 ((ur.mono l3.le).mono l4.le) wr h5)
      | false => exact h4 ι3 H3 (Ext.refl _ _) s3 _ rfl)))
end
end IL

end
section
set_option Elab.async false
set_option linter.all false
set_option maxRecDepth 100000
set_option maxHeartbeats 2000000
namespace IL
open PySem L2
/-! ### the plain machine's operations -/
def fII (k : Int → Int → Va) : Va → Va → Sto → R Va
  | .int i, .int j, S => .ok (k i j) S
  | _, _, _ => .no
abbrev fSub := fII fun i j => .int (i - j)
abbrev fLt := fII fun i j => .bl (decide (i < j))
abbrev fLe := fII fun i j => .bl (decide (i ≤ j))
abbrev fGt := fII fun i j => .bl (decide (j < i))
abbrev fGe := fII fun i j => .bl (decide (j ≤ i))
def fAdd : Va → Va → Sto → R Va
  | .int i, .int j, S => .ok (.int (i + j)) S
  | .ref a, .ref b, S => match S[a]?, S[b]? with
    | some (.lst xs), some (.lst ys) => if xs.length + ys.length ≤ 100000 then .ok (.ref S.length) (S ++ [.lst (xs ++ ys)]) else .no
    | _, _ => .no
  | _, _, _ => .no
open Classical in
noncomputable def fMul : Va → Va → Sto → R Va
  | .int i, .int j, S => if IntMulOk i j then .ok (.int (i * j)) S else .no
  | .ref a, .int k, S => match S[a]? with
    | some (.lst xs) => if 0 ≤ k ∧ k ≤ 100000 ∧ xs.length * k.toNat ≤ 100000 then .ok (.ref S.length) (S ++ [.lst (List.replicate k.toNat xs).flatten]) else .no
    | _ => .no
  | _, _, _ => .no
def fMod : Va → Va → Sto → R Va
  | .int i, .int j, S => if 0 < j then .ok (.int (i % j)) S else .no
  | _, _, _ => .no
def fDiv : Va → Va → Sto → R Va
  | .int i, .int j, S => if 0 < j ∧ j < 1073741824 then .ok (.int (i / j)) S else .no
  | _, _, _ => .no
def fPow : Va → Va → Sto → R Va
  | .int i, .int j, S => if 0 ≤ j ∧ j ≤ 1000000 ∧ i.natAbs < 2 ^ 64 then .ok (.int (i ^ j.toNat)) S else .no
  | _, _, _ => .no
def fNeg : Va → Sto → R Va
  | .int i, S => .ok (.int (-i)) S
  | _, _ => .no
def fIs : Va → Va → Sto → R Va
  | .bl a, .bl b, S => .ok (.bl (decide (a = b))) S
  | _, _, _ => .no
def fIsNot : Va → Va → Sto → R Va
  | .bl a, .bl b, S => .ok (.bl (!decide (a = b))) S
  | _, _, _ => .no
/-- a list's items (also the script's) -/
def getL (S : Sto) : Va → Option (List Va)
  | .ref n => match S[n]? with
    | some (.lst xs) => some xs
    | _ => none
  | .scr ns => some (ns.map .int)
  | _ => none
def getT (S : Sto) : Va → Option (List Va)
  | .ref n => match S[n]? with
    | some (.tup xs) => some xs
    | _ => none
  | _ => none
def getQ (S : Sto) (x : Va) : Option (List Va) := match getL S x with
  | some xs => some xs
  | none => getT S x
def fIx (x y : Va) (S : Sto) : R Va := match getQ S x, y with
  | some xs, .int i => match atI xs i with
    | some v => .ok v S
    | none => .no
  | _, _ => .no
def fIxL (x y : Va) (S : Sto) : R Va := match getL S x, y with
  | some xs, .int i => match atI xs i with
    | some v => .ok v S
    | none => .no
  | _, _ => .no
/-! data, for == -/
def allO {α : Type} : List (Option α) → Option (List α)
  | [] => some []
  | none :: _ => none
  | some a :: r => match allO r with
    | some l => some (a :: l)
    | none => none
def toP : Nat → Sto → Va → Option PyData
  | _, _, .non => some .none
  | _, _, .bl b => some (.bool b)
  | _, _, .int i => some (.int i)
  | _, _, .str s => if PyData.strOk s = true then some (.str s) else none
  | _, _, .scr ns => some (.list (ns.map .int))
  | k + 1, S, .ref n => match S[n]? with
    | some (.lst xs) => match allO (xs.map (toP k S)) with
      | some ds => some (.list ds)
      | none => none
    | some (.tup xs) => match allO (xs.map (toP k S)) with
      | some ds => some (.tuple ds)
      | none => none
    | _ => none
  | _, _, _ => none
def fEq (x y : Va) (S : Sto) : R Va := match toP 9 S x, toP 9 S y with
  | some d, some e => .ok (.bl (PyData.eqv d e)) S
  | _, _ => .no
def fNe (x y : Va) (S : Sto) : R Va := match toP 9 S x, toP 9 S y with
  | some d, some e => .ok (.bl (!PyData.eqv d e)) S
  | _, _ => .no
def fInD (neg : Bool) (x y : Va) (S : Sto) : R Va := match toP 9 S x, toP 9 S y with
  | some d, some (.list ds) => .ok (.bl (if neg then !ds.any fun z => PyData.eqv z d else ds.any fun z => PyData.eqv z d)) S
  | _, _ => .no
def flatA : Va → Bool
  | .non => true | .bl _ => true | .int _ => true | .str _ => true | _ => false
def eqA : Va → Va → Bool
  | .non, .non => true
  | .bl a, .bl b => a == b
  | .bl a, .int b => (if a then 1 else 0) == b
  | .int a, .bl b => a == (if b then 1 else 0)
  | .int a, .int b => a == b
  | .str a, .str b => a == b
  | _, _ => false
def inA (x : Va) (xs : List Va) : Bool := xs.any fun y => eqA y x
def fIn (neg : Bool) (x y : Va) (S : Sto) : R Va := match getQ S y with
  | some xs => if flatA x = true ∧ xs.all flatA = true then .ok (.bl (if neg then !inA x xs else inA x xs)) S else .no
  | none => .no
/-! built-ins -/
def asI : Va → Option Int
  | .int i => some i
  | _ => none
def asBl : Va → Option Bool
  | .bl i => some i
  | _ => none
def asIs (xs : List Va) : Option (List Int) := allO (xs.map asI)
def asBs (xs : List Va) : Option (List Bool) := allO (xs.map asBl)
def tyB (S : Sto) : Va → Option String
  | .non => some "NoneType" | .bl _ => some "bool" | .int _ => some "int" | .str _ => some "str"
  | .ref n => match S[n]? with
    | some (.lst _) => some "list" | some (.tup _) => some "tuple" | some (.dic _) => some "dict" | _ => none
  | .scr _ => some "list"
  | _ => none
/-- the program's own classes -/
def clsL : List Str := ["Answer", "Shared", "Crowd", "Even", "Chain", "Side"]
def isSub (c d : Str) : Bool := decide (c = d) || decide (d = ("Answer" : Str))
def fIsi : List Va → Sto → R Va
  | [x, .ty u], S => match tyB S x with
    | some t => match kitB t u with
      | some b => .ok (.bl b) S
      | none => .no
    | none => .no
  | _, _ => .no
/-- isinstance(x, C), C an own class -/
def fIsiC : List Va → Sto → R Va
  | [.ref n, .gl d], S => match S[n]? with
    | some (.obj c _) => if c ∈ clsL ∧ d ∈ clsL then .ok (.bl (isSub c d)) S else .no
    | _ => .no
  | _, _ => .no
def fLen : List Va → Sto → R Va
  | [x], S => match getQ S x with
    | some xs => .ok (.int xs.length) S
    | none => .no
  | _, _ => .no
def fList : List Va → Sto → R Va
  | [x], S => match getQ S x with
    | some xs => .ok (.ref S.length) (S ++ [.lst xs])
    | none => .no
  | _, _ => .no
def fTuple : List Va → Sto → R Va
  | [x], S => match getL S x with
    | some xs => .ok (.ref S.length) (S ++ [.tup xs])
    | none => .no
  | _, _ => .no
def fSum : List Va → Sto → R Va
  | [x], S => match (getL S x).bind asIs with
    | some ns => .ok (.int ns.sum) S
    | none => .no
  | _, _ => .no
def fAll : List Va → Sto → R Va
  | [x], S => match (getL S x).bind asBs with
    | some ns => .ok (.bl (ns.all id)) S
    | none => .no
  | _, _ => .no
def fAny : List Va → Sto → R Va
  | [x], S => match (getL S x).bind asBs with
    | some ns => .ok (.bl (ns.any id)) S
    | none => .no
  | _, _ => .no
def maxL : List Int → Option Int
  | [] => none
  | x :: r => some (r.foldl max x)
def fMax : List Va → Sto → R Va
  | [.int i, .int j], S => .ok (.int (max i j)) S
  | [x], S => match ((getL S x).bind asIs).bind maxL with
    | some m => .ok (.int m) S
    | none => .no
  | _, _ => .no
def fMin : List Va → Sto → R Va
  | [.int i, .int j], S => .ok (.int (min i j)) S
  | _, _ => .no
def fAbs : List Va → Sto → R Va
  | [.int i], S => .ok (.int (i.natAbs : Int)) S
  | _, _ => .no
/-- in order -/
def srt (xs : List Int) : List Int := xs.mergeSort fun a b => decide (a ≤ b)
/-- each once -/
def dd : List Int → List Int
  | [] => []
  | x :: r => if x ∈ r then dd r else x :: dd r
def keysOf (S : Sto) : Va → Option (List Int)
  | .ref n => match S[n]? with
    | some (.dic es) => some (es.map (·.1))
    | _ => none
  | _ => none
def fSorted : List Va → Sto → R Va
  | [x], S => match (getL S x).bind asIs with
    | some ns => .ok (.ref S.length) (S ++ [.lst ((srt ns).map .int)])
    | none => .no
  | _, _ => .no
def fSortedD : List Va → Sto → R Va
  | [x], S => match keysOf S x with
    | some ns => if ns.length < 64 then .ok (.ref S.length) (S ++ [.lst ((srt ns).map .int)]) else .no
    | none => .no
  | _, _ => .no
/-- sorted(set(x)), len(set(x)) -/
def fSortedSet : List Va → Sto → R Va
  | [x], S => match (getL S x).bind asIs with
    | some ns => if ns.length < 64 then .ok (.ref S.length) (S ++ [.lst ((srt (dd ns)).map .int)]) else .no
    | none => .no
  | _, _ => .no
def fLenSet : List Va → Sto → R Va
  | [x], S => match (getL S x).bind asIs with
    | some ns => if ns.length ≤ 1000 then .ok (.int (dd ns).length) S else .no
    | none => .no
  | _, _ => .no
/-! methods of lists -/
def iBM (f : Va → List Va → Sto → R Va) (o : IE) (a : IA) : IE := fun ρ S => (o ρ S).bind fun x S1 => match getL S1 x with
  | some _ => (a ρ S1).bind fun xs S2 => f x xs S2
  | none => .no
def mAppend : Va → List Va → Sto → R Va
  | .ref n, [y], S => match S[n]? with
    | some (.lst xs) => if xs.length < 100000 then .ok .non (S.set n (.lst (xs ++ [y]))) else .no
    | _ => .no
  | _, _, _ => .no
def mExtend : Va → List Va → Sto → R Va
  | .ref n, [.ref m], S => match S[n]?, S[m]? with
    | some (.lst xs), some (.lst ys) => if xs.length + ys.length ≤ 100000 then .ok .non (S.set n (.lst (xs ++ ys))) else .no
    | _, _ => .no
  | _, _, _ => .no
def mPop : Va → List Va → Sto → R Va
  | .ref n, [], S => match S[n]? with
    | some (.lst xs) => match xs[xs.length - 1]? with
      | some y => .ok y (S.set n (.lst xs.dropLast))
      | none => .no
    | _ => .no
  | _, _, _ => .no
def mReverse : Va → List Va → Sto → R Va
  | .ref n, [], S => match S[n]? with
    | some (.lst xs) => .ok .non (S.set n (.lst xs.reverse))
    | _ => .no
  | _, _, _ => .no
def mIndex : Va → List Va → Sto → R Va
  | x, [y], S => match getL S x with
    | some xs => if flatA y = true ∧ xs.all flatA = true then match xs.findIdx? (fun z => eqA z y) with
      | some j => .ok (.int j) S
      | none => .no
      else .no
    | none => .no
  | _, _, _ => .no
def mCount : Va → List Va → Sto → R Va
  | x, [.bl b], S => match (getL S x).bind asBs with
    | some bs => .ok (.int (bs.count b)) S
    | none => .no
  | _, _, _ => .no
/-! xs[lo:hi], xs[::-1] -/
def cut {α : Type} (xs : List α) (lo hi : Option Int) : List α := (xs.drop (HT.sIx xs.length 0 lo)).take (HT.sIx xs.length xs.length hi - HT.sIx xs.length 0 lo)
abbrev IO := Env → Sto → R (Option Int)
def iNoPart : IO := fun _ S => .ok none S
def iPart (a : IE) : IO := fun ρ S => (a ρ S).bind fun x S1 => match x with
  | .int i => .ok (some i) S1
  | _ => .no
def iSl (a : IE) (lo hi : IO) : IE := fun ρ S => (a ρ S).bind fun x S1 => (lo ρ S1).bind fun l S2 => (hi ρ S2).bind fun h S3 => match getL S3 x with
  | some xs => .ok (.ref S3.length) (S3 ++ [.lst (cut xs l h)])
  | none => .no
def iRev (a : IE) : IE := fun ρ S => (a ρ S).bind fun x S1 => match getL S1 x with
  | some xs => .ok (.ref S1.length) (S1 ++ [.lst xs.reverse])
  | none => .no
/-! dicts of int keys -/
def lkD (es : List (Int × Va)) (k : Int) : Option Va := (es.find? fun e => decide (e.1 = k)).map (·.2)
def putD (es : List (Int × Va)) (k : Int) (d : Va) : List (Int × Va) := if (es.any fun e => decide (e.1 = k)) = true then es.map (fun e => if e.1 = k then (e.1, d) else e) else es ++ [(k, d)]
def getD (S : Sto) : Va → Option (List (Int × Va))
  | .ref n => match S[n]? with
    | some (.dic es) => some es
    | _ => none
  | _ => none
def iDNew : IE := fun _ S => .ok (.ref S.length) (S ++ [.dic []])
def iDGet (a b : IE) : IE := iOp (fun x y S => match getD S x, y with
  | some es, .int k => match lkD es k with
    | some v => .ok v S
    | none => .no
  | _, _ => .no) a b
def iDIn (neg : Bool) (a b : IE) : IE := iOp (fun y x S => match getD S x, y with
  | some es, .int k => .ok (.bl (if neg then !(lkD es k).isSome else (lkD es k).isSome)) S
  | _, _ => .no) a b
/-- {k: v} -/
def iDisp1 (a b : IE) : IE := fun ρ S => (a ρ S).bind fun x S1 => (b ρ S1).bind fun y S2 => match x with
  | .int k => .ok (.ref S2.length) (S2 ++ [.dic [(k, y)]])
  | _ => .no
/-! fields -/
def getO (S : Sto) : Va → Option (Str × List (Str × Va))
  | .ref n => match S[n]? with
    | some (.obj c fs) => some (c, fs)
    | _ => none
  | _ => none
def iFld (a : IE) (f : Str) : IE := fun ρ S => (a ρ S).bind fun x S1 => match getO S1 x with
  | some (c, fs) => if c ∈ clsL then match fs.lookup f with
      | some v => .ok v S1
      | none => .no
    else .no
  | none => .no
/-- list(range(a)) -/
def rng (a b : Int) : List Int := (List.range (b - a).toNat).map fun (i : Nat) => a + (i : Int)
def iListRg (a : IE) : IE := fun ρ S => (a ρ S).bind fun x S1 => match x with
  | .int n => if 0 ≤ n ∧ n ≤ 100000 then .ok (.ref S1.length) (S1 ++ [.lst ((rng 0 n).map .int)]) else .no
  | _ => .no
/-! ### what is walked, targets -/
inductive It1 where
  | one (v : Va) | tup (vs : List Va)
structure Its where
  items : List It1
  chk : Sto → Bool
abbrev II := Env → Sto → R Its
abbrev IG := It1 → Env → Sto → R Env
def sameAt (S : Sto) : Va → Sto → Bool
  | .ref n => fun S' => decide (S'[n]? = S[n]?)
  | _ => fun _ => true
def itList (a : IE) : II := fun ρ S => (a ρ S).bind fun x S1 => match getL S1 x with
  | some xs => .ok ⟨xs.map .one, sameAt S1 x⟩ S1
  | none => .no
def itTup (a : IE) : II := fun ρ S => (a ρ S).bind fun x S1 => match getT S1 x with
  | some xs => .ok ⟨xs.map .one, sameAt S1 x⟩ S1
  | none => .no
def itRng (a : IE) : II := fun ρ S => (a ρ S).bind fun x S1 => match x with
  | .int n => if -100000 ≤ n ∧ n ≤ 100000 then .ok ⟨(rng 0 n).map fun i => .one (.int i), fun _ => true⟩ S1 else .no
  | _ => .no
def enuI : Nat → List Va → List It1
  | _, [] => []
  | k, x :: xs => .tup [.int (k : Int), x] :: enuI (k + 1) xs
def itEnum (a : IE) : II := fun ρ S => (a ρ S).bind fun x S1 => match getL S1 x with
  | some xs => .ok ⟨enuI 0 xs, sameAt S1 x⟩ S1
  | none => .no
def zipI : List Va → List Va → List It1
  | x :: xs, y :: ys => .tup [x, y] :: zipI xs ys
  | _, _ => []
def itZip (a b : IE) : II := fun ρ S => (a ρ S).bind fun x S1 => (b ρ S1).bind fun y S2 => match getL S2 x, getL S2 y with
  | some xs, some ys => .ok ⟨zipI xs ys, fun S => sameAt S2 x S && sameAt S2 y S⟩ S2
  | _, _ => .no
def tgName (j : Nat) : IG
  | .one v, ρ, S => .ok (ρ.set j (some v)) S
  | .tup _, _, _ => .no
def setL (o i v : Va) (S : Sto) : R Unit := match o, i with
  | .ref n, .int k => match S[n]? with
    | some (.lst xs) => match ixN xs.length k with
      | some j => .ok () (S.set n (.lst (xs.set j v)))
      | none => .no
    | _ => .no
  | _, _ => .no
def tgSub (o i : IE) : IG
  | .one v, ρ, S => (o ρ S).bind fun x S1 => (i ρ S1).bind fun y S2 => (setL x y v S2).bind fun _ S3 => .ok ρ S3
  | .tup _, _, _ => .no
def runTgs : List IG → List Va → Env → Sto → R Env
  | [], [], ρ, S => .ok ρ S
  | t :: ts, v :: vs, ρ, S => (t (.one v) ρ S).bind fun ρ1 S1 => runTgs ts vs ρ1 S1
  | _, _, _, _ => .no
def tgTupN (n : Nat) (ts : List IG) : IG
  | .tup vs, ρ, S => if vs.length = n then runTgs ts vs ρ S else .no
  | .one v, ρ, S => match getT S v with
    | some vs => if vs.length = n then runTgs ts vs ρ S else .no
    | none => .no
/-! ### comprehensions -/
def R.bindN {α β : Type} (r : R α) (k : α → Sto → R β) : R β := match r with
  | .ok a S => k a S
  | _ => .no
@[simp] theorem R.bindN_ok {α β : Type} {a : α} {S : Sto} {k : α → Sto → R β} : (R.ok a S).bindN k = k a S := rfl
@[simp] theorem R.bindN_ex {α β : Type} {c : Str} {S : Sto} {k : α → Sto → R β} : (R.ex c S).bindN k = .no := rfl
@[simp] theorem R.bindN_no {α β : Type} {k : α → Sto → R β} : (R.no).bindN k = .no := rfl
def lcL (chk : Sto → Bool) (tg : IG) (tt : IT) (ie : IE) (ρ : Env) : List It1 → Sto → R (List Va)
  | [], S => if chk S = true then .ok [] S else .no
  | it :: r, S => if chk S = true then (tg it ρ S).bindN fun ρ1 S1 => (tt ρ1 S1).bindN fun b S2 => if b = true then (ie ρ1 S2).bindN fun y S3 => (lcL chk tg tt ie ρ r S3).bindN fun ys S4 => .ok (y :: ys) S4
    else lcL chk tg tt ie ρ r S2 else .no
def wipeE (ρ : Env) : List Nat → Env
  | [] => ρ
  | v :: vs => (wipeE ρ vs).set v none
def iLc (ii : II) (tg : IG) (tt : IT) (ie : IE) (vs : List Nat) : IE := fun ρ S => (ii ρ S).bind fun I S1 => if I.items.length ≤ 100000 then
  (lcL I.chk tg tt ie (wipeE ρ vs) I.items S1).bindN fun ys S2 => .ok (.ref S2.length) (S2 ++ [.lst ys]) else .no
/-- over a dict's keys: it is out of sight meanwhile -/
def iLcK (d : Nat) (tg : IG) (tt : IT) (ie : IE) (vs : List Nat) : IE := fun ρ S => match ρ[d]? with
  | some (some (.ref n)) => match S[n]? with
    | some (.dic es) => if es.length ≤ 100000 then (lcL (fun _ => true) tg tt ie (wipeE ρ vs) (es.map fun e => .one (.int e.1)) (S.set n .hid)).bindN fun ys S2 => .ok (.ref S2.length) (S2.set n (.dic es) ++ [.lst ys]) else .no
    | _ => .no
  | _ => .no
/-! ### statements -/
theorem R.bindN_assoc {α β γ : Type} {r : R α} {k : α → Sto → R β} {m : β → Sto → R γ} : (r.bindN k).bindN m = r.bindN fun x S => (k x S).bindN m := by cases r <;> rfl
def R.toO {α : Type} (r : R α) (ρ : Env) (k : α → Sto → O) : O := match r with
  | .ok a S => k a S
  | .ex c S => .ex c ρ S
  | .no => .no
@[simp] theorem R.toO_ok {α : Type} {a : α} {S : Sto} {ρ : Env} {k : α → Sto → O} : (R.ok a S).toO ρ k = k a S := rfl
@[simp] theorem R.toO_ex {α : Type} {c : Str} {S : Sto} {ρ : Env} {k : α → Sto → O} : (R.ex c S).toO ρ k = .ex c ρ S := rfl
@[simp] theorem R.toO_no {α : Type} {ρ : Env} {k : α → Sto → O} : (R.no).toO ρ k = .no := rfl
def O.seq (o : O) (k : IS) : O := match o with
  | .nx ρ S => k ρ S
  | o => o
@[simp] theorem O.seq_nx {ρ : Env} {S : Sto} {k : IS} : (O.nx ρ S).seq k = k ρ S := rfl
@[simp] theorem O.seq_rt {v : Va} {S : Sto} {k : IS} : (O.rt v S).seq k = .rt v S := rfl
@[simp] theorem O.seq_ex {c : Str} {ρ : Env} {S : Sto} {k : IS} : (O.ex c ρ S).seq k = .ex c ρ S := rfl
@[simp] theorem O.seq_no {k : IS} : O.no.seq k = .no := rfl
def sNext : IS := fun ρ S => .nx ρ S
def sSeq (a b : IS) : IS := fun ρ S => (a ρ S).seq b
def sAsg (e : IE) (tg : IG) : IS := fun ρ S => (e ρ S).toO ρ fun x S1 => (tg (.one x) ρ S1).toO ρ fun ρ' S2 => .nx ρ' S2
def sPar (i j : Nat) (a : IA) : IS := fun ρ S => (a ρ S).toO ρ fun xs S1 => match xs with
  | [x, y] => .nx ((ρ.set i (some x)).set j (some y)) S1
  | _ => .no
def sPar3 (i j l : Nat) (a : IA) : IS := fun ρ S => (a ρ S).toO ρ fun xs S1 => match xs with
  | [x, y, z] => .nx (((ρ.set i (some x)).set j (some y)).set l (some z)) S1
  | _ => .no
def sExpr (e : IE) : IS := fun ρ S => (e ρ S).toO ρ fun _ S1 => .nx ρ S1
def sRet (e : IE) : IS := fun ρ S => (e ρ S).toO ρ fun x S1 => .rt x S1
def sRetN : IS := fun ρ S => .rt .non S
def sIf (c : IT) (a b : IS) : IS := fun ρ S => (c ρ S).toO ρ fun k S1 => if k = true then a ρ S1 else b ρ S1
def sRaise (c : Str) : IS := fun ρ S => .ex c ρ S
def putF (f : Str) (v : Va) : List (Str × Va) → List (Str × Va)
  | [] => [(f, v)]
  | p :: r => if p.1 = f then (f, v) :: r else p :: putF f v r
def sFldSet (o : IE) (f : Str) (e : IE) : IS := fun ρ S => (e ρ S).toO ρ fun v S1 => (o ρ S1).toO ρ fun x S2 => match x with
  | .ref n => match S2[n]? with
    | some (.obj c fs) => if c ∈ clsL ∧ fs.length < 100 then .nx ρ (S2.set n (.obj c (putF f v fs))) else .no
    | _ => .no
  | _ => .no
def sDSet (d k e : IE) : IS := fun ρ S => (e ρ S).toO ρ fun v S1 => (d ρ S1).toO ρ fun x S2 => (k ρ S2).toO ρ fun y S3 => match x, y with
  | .ref n, .int i => match S3[n]? with
    | some (.dic es) => if es.length < 100000 then .nx ρ (S3.set n (.dic (putD es i v))) else .no
    | _ => .no
  | _, _ => .no
def sAug (i : Nat) (e : IE) : IS := fun ρ S => match ρ[i]? with
  | some (some (.int x)) => (e ρ S).toO ρ fun y S1 => match y with
    | .int j => .nx (ρ.set i (some (.int (x + j)))) S1
    | _ => .no
  | _ => .no
def sAugS (o i e : IE) : IS := fun ρ S => (o ρ S).toO ρ fun x S1 => (i ρ S1).toO ρ fun y S2 => (fIxL x y S2).toO ρ fun z S3 => (e ρ S3).toO ρ fun w S4 => match z, w with
  | .int a, .int b => (setL x y (.int (a + b)) S4).toO ρ fun _ S5 => .nx ρ S5
  | _, _ => .no
def forL (chk : Sto → Bool) (tg : IG) (body : IS) : List It1 → IS
  | [], ρ, S => if chk S = true then .nx ρ S else .no
  | it :: r, ρ, S => if chk S = true then ((tg it ρ S).toO ρ fun ρ1 S1 => body ρ1 S1).seq (forL chk tg body r) else .no
def sFor (ii : II) (tg : IG) (body : IS) : IS := fun ρ S => (ii ρ S).toO ρ fun I S1 => forL I.chk tg body I.items ρ S1
def whF (c : IT) (body : IS) : Nat → IS
  | 0, _, _ => .no
  | n + 1, ρ, S => (c ρ S).toO ρ fun k S1 => if k = true then (body ρ S1).seq (whF c body n) else .nx ρ S1
open Classical in
noncomputable def sWhile (c : IT) (body : IS) : IS := fun ρ S => if h : ∃ n, whF c body n ρ S ≠ .no then whF c body h.choose ρ S else .no
/-! ### defs -/
def O.val : O → R Va
  | .nx _ S => .ok .non S
  | .rt v S => .ok v S
  | .ex c _ S => .ex c S
  | .no => .no
def mkFn (p n : Nat) (body : IS) : Fn := fun xs S => if xs.length = p then (body (xs.map some ++ List.replicate (n - xs.length) none) S).val else .no
def iCall (f : Fn) (a : IA) : IE := fun ρ S => (a ρ S).bind f
def iMake (c : Str) (f : Fn) (a : IA) : IE := fun ρ S => (a ρ S).bind fun xs S1 => (f (.ref S1.length :: xs) (S1 ++ [.obj c []])).bind fun v S2 => match v with
  | .non => .ok (.ref S1.length) S2
  | _ => .no
def iMeth (c : Str) (m : Str) (f : Fn) (o : IE) (a : IA) : IE := fun ρ S => (o ρ S).bind fun x S1 => match getO S1 x with
  | some (c', fs) => if c' = c ∧ fs.lookup m = none then (a ρ S1).bind fun xs S2 => f (x :: xs) S2 else .no
  | none => .no
/-- by the class -/
def iIs (c : Str) (o : IE) (i j : IE) : IE := fun ρ S => match o ρ S with
  | .ok x S1 => match getO S1 x with
    | some (c', _) => if c' = c then i ρ S else j ρ S
    | none => .no
  | _ => .no
end IL

end
section
set_option Elab.async false
set_option linter.all false
set_option maxRecDepth 100000
set_option maxHeartbeats 2000000
namespace IL
open PySem L2
/-! ### they are sound -/
def rADD : R2 := fun x y H Q => rI0 (fun i j => .int (i + j)) x y H Q ∨ rCat x y H Q
theorem op_ADD {X : Cx} : OpR X (binaryOp .Add) rADD := op_add.or op_cat
def CMulZ (i j : Int) : Prop := IntMulOk i j
theorem op_mulZ {X : Cx} : OpR X (binaryOp .Mult) (rI CMulZ fun i j => .int (i * j)) := opI fun _ _ _ _ _ _ _ hc q => PyProof.Rows.mul_int q hc
def rMUL : R2 := fun x y H Q => rI CMulZ (fun i j => .int (i * j)) x y H Q ∨ rRep x y H Q
theorem op_MUL {X : Cx} : OpR X (binaryOp .Mult) rMUL := op_mulZ.or op_rep
section
variable {g : Gm} {W : WH} {ι : List Addr} {S : Sto} {H : Hp}
theorem sr_II {k : Int → Int → V} {k' : Int → Int → Va} (h : ∀ ι i j, VR g ι (k' i j) (k i j)) : SdR g W (rI0 k) (fII k') := fun ι S H x y v u σ Q s vx vy h1 => by
  unfold fII at h1
  split at h1
  · cases vx; cases vy
    exact ⟨_, _, rfl, rfl, h1 ι H (Ext.refl _ _) s _ (h ι _ _)⟩
  · exact h1.elim
theorem sr_sub : SdR g W (rI0 fun i j => .int (i - j)) fSub := sr_II fun _ _ _ => rfl
theorem sr_lt : SdR g W (rI0 fun i j => .bl (decide (i < j))) fLt := sr_II fun _ _ _ => rfl
theorem sr_le : SdR g W (rI0 fun i j => .bl (decide (i ≤ j))) fLe := sr_II fun _ _ _ => rfl
theorem sr_gt : SdR g W (rI0 fun i j => .bl (decide (j < i))) fGt := sr_II fun _ _ _ => rfl
theorem sr_ge : SdR g W (rI0 fun i j => .bl (decide (j ≤ i))) fGe := sr_II fun _ _ _ => rfl
theorem sr_add : SdR g W rADD fAdd := fun ι S H x y v u σ Q s vx vy h1 => by
  unfold fAdd at h1
  split at h1
  · cases vx; cases vy
    exact .inl ⟨_, _, rfl, rfl, h1 ι H (Ext.refl _ _) s _ rfl⟩
  · split at h1
    · rename_i xs ys ex ey
      split at h1
      · rename_i hl
        obtain ⟨p, rfl, _, vs, hp, rp⟩ := s.ref ex vx
        obtain ⟨q, rfl, _, ws, hq, rq⟩ := s.ref ey vy
        refine .inr ⟨p, q, vs, ws, rfl, rfl, hp, hq, sz (by rw [← Paired.len rp, ← Paired.len rq]; exact hl), fun z hz => ?_⟩
        exact h1 _ _ (Ext.snoc hz) (s.lst hz (Paired.append rp rq)) _ s.newRef
      · exact h1.elim
    · exact h1.elim
  · exact h1.elim
theorem sr_mul : SdR g W rMUL fMul := fun ι S H x y v u σ Q s vx vy h1 => by
  unfold fMul at h1
  split at h1
  · split at h1
    · rename_i hm
      cases vx; cases vy
      exact .inl ⟨_, _, rfl, rfl, hm, h1 ι H (Ext.refl _ _) s _ rfl⟩
    · exact h1.elim
  · split at h1
    · rename_i xs ex
      split at h1
      · rename_i k hl
        obtain ⟨p, rfl, _, vs, hp, rp⟩ := s.ref ex vx
        cases vy
        refine .inr ⟨p, _, vs, rfl, rfl, hp, by omega, by omega, sz (by rw [← Paired.len rp]; exact hl.2.2), fun z hz => ?_⟩
        exact h1 _ _ (Ext.snoc hz) (s.lst hz (Paired.rep rp _)) _ s.newRef
      · exact h1.elim
    · exact h1.elim
  · exact h1.elim
theorem sr_mod : SdR g W (rI (fun _ j => 0 < j) fun i j => .int (i % j)) fMod := fun ι S H x y v u σ Q s vx vy h1 => by
  unfold fMod at h1
  split at h1
  · split at h1
    · rename_i hm
      cases vx; cases vy
      exact ⟨_, _, rfl, rfl, hm, h1 ι H (Ext.refl _ _) s _ rfl⟩
    · exact h1.elim
  · exact h1.elim
theorem sr_div : SdR g W (rI CDiv fun i j => .int (i / j)) fDiv := fun ι S H x y v u σ Q s vx vy h1 => by
  unfold fDiv at h1
  split at h1
  · split at h1
    · rename_i hm
      cases vx; cases vy
      exact ⟨_, _, rfl, rfl, hm, h1 ι H (Ext.refl _ _) s _ rfl⟩
    · exact h1.elim
  · exact h1.elim
theorem sr_pow : SdR g W (rI CPow fun i j => .int (i ^ j.toNat)) fPow := fun ι S H x y v u σ Q s vx vy h1 => by
  unfold fPow at h1
  split at h1
  · split at h1
    · rename_i hm
      cases vx; cases vy
      exact ⟨_, _, rfl, rfl, hm, h1 ι H (Ext.refl _ _) s _ rfl⟩
    · exact h1.elim
  · exact h1.elim
theorem sd_neg {ta : TE} {ia : IE} (ha : SdE g W ta ia) : SdE g W (tUn (rU fun i => .int (-i)) ta) (iUn fNeg ia) := sd_un (fun ι S H x v σ Q s vx h1 => by
  unfold fNeg at h1
  split at h1
  · cases vx
    exact ⟨_, rfl, h1 ι H (Ext.refl _ _) s _ rfl⟩
  · exact h1.elim) ha
theorem sr_is : SdR g W rIsB fIs := fun ι S H x y v u σ Q s vx vy h1 => by
  unfold fIs at h1
  split at h1
  · cases vx; cases vy
    exact ⟨_, _, rfl, rfl, h1 ι H (Ext.refl _ _) s _ rfl⟩
  · exact h1.elim
theorem sr_isnot : SdR g W rNotB fIsNot := fun ι S H x y v u σ Q s vx vy h1 => by
  unfold fIsNot at h1
  split at h1
  · cases vx; cases vy
    exact ⟨_, _, rfl, rfl, h1 ι H (Ext.refl _ _) s _ rfl⟩
  · exact h1.elim
/-! lists -/
theorem vr_ints (ns : List Int) : VRs g ι (ns.map .int) (ns.map V.int) := by
  induction ns with
  | nil => exact .nil
  | cons n ns ih => exact .cons rfl ih
theorem getL_ok (s : Sim g ι S H) {x : Va} {v : V} {xs : List Va} (vx : VR g ι x v) (e : getL S x = some xs) : ∃ a vs, v = .ref a ∧ SqL g.K H a vs ∧ VRs g ι xs vs := by
  unfold getL at e
  split at e
  · split at e
    · rename_i ex
      cases e
      obtain ⟨p, rfl, _, vs, hp, rp⟩ := s.ref ex vx
      exact ⟨p, vs, rfl, SqL.of hp, rp⟩
    · cases e
  · cases e
    obtain ⟨rfl, rfl⟩ := vx
    exact ⟨_, _, rfl, s.scr, vr_ints _⟩
  · cases e
theorem getT_ok (s : Sim g ι S H) {x : Va} {v : V} {xs : List Va} (vx : VR g ι x v) (e : getT S x = some xs) : ∃ a vs, v = .ref a ∧ H a = some (.tup vs) ∧ VRs g ι xs vs := by
  unfold getT at e
  split at e
  · split at e
    · rename_i ex
      cases e
      obtain ⟨p, rfl, _, vs, hp, rp⟩ := s.ref ex vx
      exact ⟨p, vs, rfl, hp, rp⟩
    · cases e
  · cases e
theorem getQ_ok (s : Sim g ι S H) {x : Va} {v : V} {xs : List Va} (vx : VR g ι x v) (e : getQ S x = some xs) : ∃ a vs, v = .ref a ∧ (SqL g.K H a vs ∨ SqT g.K H a vs) ∧ VRs g ι xs vs := by
  unfold getQ at e
  split at e
  · rename_i el
    cases e
    obtain ⟨a, vs, h1, h2, h3⟩ := getL_ok s vx el
    exact ⟨a, vs, h1, .inl h2, h3⟩
  · obtain ⟨a, vs, h1, h2, h3⟩ := getT_ok s vx e
    exact ⟨a, vs, h1, .inr (SqT.of h2), h3⟩
theorem sr_ix : SdR g W (rIx g.K) fIx := fun ι S H x y v u σ Q s vx vy h1 => by
  unfold fIx at h1
  split at h1
  · rename_i xs i ex
    split at h1
    · rename_i w ew
      obtain ⟨a, vs, rfl, hq, r⟩ := getQ_ok s vx ex
      obtain ⟨w', e1, e2⟩ := Paired.atI r ew
      cases vy
      rcases hq with hq | hq
      · exact .inl ⟨a, vs, i, w', rfl, rfl, hq, e1, h1 ι H (Ext.refl _ _) s _ e2⟩
      · exact .inr (.inl ⟨a, vs, i, w', rfl, rfl, hq, e1, h1 ι H (Ext.refl _ _) s _ e2⟩)
    · exact h1.elim
  · exact h1.elim
/-! == -/
theorem allO_get {α β : Type} {f : α → Option β} : ∀ {xs : List α} {ds : List β}, allO (xs.map f) = some ds → Paired (fun x d => f x = some d) xs ds
  | [], ds, h => by cases h; exact .nil
  | x :: xs, ds, h => by
    rw [List.map_cons] at h
    cases e : f x with
    | none => rw [e] at h; cases h
    | some d =>
      rw [e] at h
      unfold allO at h
      split at h
      · rename_i l hl
        cases h
        exact .cons e (allO_get hl)
      · cases h
theorem dpAll_of {xs : List Va} {vs : List V} {ds : List PyData} {f : Va → Option PyData} (hf : ∀ x v d, f x = some d → VR g ι x v → Dp g.K H v d) (r : VRs g ι xs vs) (h : Paired (fun x d => f x = some d) xs ds) : DpAll g.K H vs ds := by
  induction r generalizing ds with
  | nil => cases h; exact .nil
  | cons q t ih =>
    cases h with
    | cons h1 h2 => exact .cons (hf _ _ _ h1 q) (ih h2)
theorem dpAll_ints : ∀ ns : List Int, DpAll g.K H (ns.map V.int) (ns.map PyData.int)
  | [] => .nil
  | n :: ns => .cons (.int n) (dpAll_ints ns)
theorem toP_dp (s : Sim g ι S H) : ∀ (k : Nat) (x : Va) (v : V) (d : PyData), toP k S x = some d → VR g ι x v → Dp g.K H v d
  | k, .non, v, d, h, vx => by cases vx; simp [toP] at h; subst h; exact .non
  | k, .bl b, v, d, h, vx => by cases vx; simp [toP] at h; subst h; exact .bl b
  | k, .int b, v, d, h, vx => by cases vx; simp [toP] at h; subst h; exact .int b
  | k, .str b, v, d, h, vx => by
    cases vx
    simp only [toP] at h
    split at h
    · cases h; exact .str b
    · cases h
  | k, .scr ns, v, d, h, vx => by
    obtain ⟨rfl, rfl⟩ := vx
    simp [toP] at h; subst h
    exact .lst s.scr (dpAll_ints _)
  | 0, .ref n, v, d, h, vx => by simp [toP] at h
  | k + 1, .ref n, v, d, h, vx => by
    simp only [toP] at h
    split at h
    · rename_i xs ex
      split at h
      · rename_i ds hds
        cases h
        obtain ⟨p, rfl, _, vs, hp, rp⟩ := s.ref ex vx
        exact .lst (SqL.of hp) (dpAll_of (toP_dp s k · · ·) rp (allO_get hds))
      · cases h
    · rename_i xs ex
      split at h
      · rename_i ds hds
        cases h
        obtain ⟨p, rfl, _, vs, hp, rp⟩ := s.ref ex vx
        exact .tup (SqT.of hp) (dpAll_of (toP_dp s k · · ·) rp (allO_get hds))
      · cases h
    · cases h
  | k, .ty n, v, d, h, vx => by simp [toP] at h
  | k, .gl n, v, d, h, vx => by simp [toP] at h
  | k, .exc n, v, d, h, vx => by simp [toP] at h
theorem lay_all {f : Va → Option PyData} {n : Nat} {xs : List Va} {ds : List PyData} (hf : ∀ x d, f x = some d → d.canLay0 = true ∧ d.depth ≤ n) (h : Paired (fun x d => f x = some d) xs ds) : PyData.canLayAll0 ds = true ∧ PyData.depthAll ds ≤ n := by
  induction h with
  | nil => simp [PyData.canLayAll0, PyData.depthAll]
  | cons q t ih =>
    obtain ⟨a, b⟩ := hf _ _ q
    rw [PyData.canLayAll0, PyData.depthAll, a, ih.1]
    exact ⟨rfl, by have := ih.2; omega⟩
theorem lay_ints : ∀ ns : List Int, PyData.canLayAll0 (ns.map PyData.int) = true ∧ PyData.depthAll (ns.map PyData.int) ≤ 1
  | [] => by simp [PyData.canLayAll0, PyData.depthAll]
  | n :: ns => by
    obtain ⟨a, b⟩ := lay_ints ns
    rw [List.map_cons, PyData.canLayAll0, PyData.depthAll, a]
    simp only [PyData.canLay0, PyData.depth]
    exact ⟨rfl, by omega⟩
theorem toP_lay : ∀ (k : Nat) (x : Va) (d : PyData), toP k S x = some d → d.canLay0 = true ∧ d.depth ≤ k + 2
  | k, .non, d, h => by simp [toP] at h; subst h; simp [PyData.canLay0, PyData.depth]
  | k, .bl b, d, h => by simp [toP] at h; subst h; simp [PyData.canLay0, PyData.depth]
  | k, .int b, d, h => by simp [toP] at h; subst h; simp [PyData.canLay0, PyData.depth]
  | k, .str b, d, h => by
    simp only [toP] at h
    split at h
    · rename_i hb
      cases h; simp [PyData.canLay0, PyData.depth, hb]
    · cases h
  | k, .scr ns, d, h => by
    simp [toP] at h; subst h
    obtain ⟨a, b⟩ := lay_ints ns
    rw [PyData.canLay0, PyData.depth, a]
    exact ⟨rfl, by omega⟩
  | 0, .ref n, d, h => by simp [toP] at h
  | k + 1, .ref n, d, h => by
    simp only [toP] at h
    split at h
    · split at h
      · rename_i ds hds
        cases h
        obtain ⟨a, b⟩ := lay_all (n := k + 2) (toP_lay k · ·) (allO_get hds)
        rw [PyData.canLay0, PyData.depth, a]
        exact ⟨rfl, by omega⟩
      · cases h
    · split at h
      · rename_i ds hds
        cases h
        obtain ⟨a, b⟩ := lay_all (n := k + 2) (toP_lay k · ·) (allO_get hds)
        rw [PyData.canLay0, PyData.depth, a]
        exact ⟨rfl, by omega⟩
      · cases h
    · cases h
  | k, .ty n, d, h => by simp [toP] at h
  | k, .gl n, d, h => by simp [toP] at h
  | k, .exc n, d, h => by simp [toP] at h
theorem toP_shaped {x : Va} {d : PyData} (h : toP 9 S x = some d) : SeqAt.shaped d = true := by
  obtain ⟨a, b⟩ := toP_lay 9 x d h
  unfold SeqAt.shaped
  rw [a, Bool.true_and]
  exact decide_eq_true (by omega)
theorem sr_eq : SdR g W (rEqD g.K) fEq := fun ι S H x y v u σ Q s vx vy h1 => by
  unfold fEq at h1
  split at h1
  · rename_i d e hd he
    exact ⟨d, e, toP_dp s 9 _ _ _ hd vx, toP_dp s 9 _ _ _ he vy, toP_shaped hd, toP_shaped he, h1 ι H (Ext.refl _ _) s _ rfl⟩
  · exact h1.elim
theorem sr_ne : SdR g W (rNeD g.K) fNe := fun ι S H x y v u σ Q s vx vy h1 => by
  unfold fNe at h1
  split at h1
  · rename_i d e hd he
    exact ⟨d, e, toP_dp s 9 _ _ _ hd vx, toP_dp s 9 _ _ _ he vy, toP_shaped hd, toP_shaped he, h1 ι H (Ext.refl _ _) s _ rfl⟩
  · exact h1.elim
theorem sr_inD : SdR g W (rInD g.K) (fInD false) := fun ι S H x y v u σ Q s vx vy h1 => by
  unfold fInD at h1
  split at h1
  · rename_i d e hd he
    exact ⟨d, e, toP_dp s 9 _ _ _ hd vx, toP_dp s 9 _ _ _ he vy, toP_shaped hd, toP_shaped he, h1 ι H (Ext.refl _ _) s _ rfl⟩
  · exact h1.elim
theorem sr_niD : SdR g W (rNotInD g.K) (fInD true) := fun ι S H x y v u σ Q s vx vy h1 => by
  unfold fInD at h1
  split at h1
  · rename_i d e hd he
    exact ⟨d, e, toP_dp s 9 _ _ _ hd vx, toP_dp s 9 _ _ _ he vy, toP_shaped hd, toP_shaped he, h1 ι H (Ext.refl _ _) s _ rfl⟩
  · exact h1.elim
/-! in -/
theorem flat_vr {x : Va} {v : V} (h : VR g ι x v) (f : flatA x = true) : flatV v = true := by
  cases x <;> first | (cases h; rfl) | (simp [flatA] at f)
theorem eq_vr {x y : Va} {v u : V} (hx : VR g ι x v) (hy : VR g ι y u) (fx : flatA x = true) (fy : flatA y = true) : eqV v u = eqA x y := by
  cases x <;> first | (simp [flatA] at fx; done) | (cases hx; cases y <;> first | (simp [flatA] at fy; done) | (cases hy; rfl))
theorem flats_vr {xs : List Va} {vs : List V} (r : VRs g ι xs vs) (f : xs.all flatA = true) : vs.all flatV = true := by
  induction r with
  | nil => rfl
  | cons q t ih =>
    rw [List.all_cons, Bool.and_eq_true] at f
    rw [List.all_cons, flat_vr q f.1, ih f.2]; rfl
theorem in_vr {x : Va} {v : V} {xs : List Va} {vs : List V} (hx : VR g ι x v) (fx : flatA x = true) (r : VRs g ι xs vs) (f : xs.all flatA = true) : inV v vs = inA x xs := by
  induction r with
  | nil => rfl
  | cons q t ih =>
    rw [List.all_cons, Bool.and_eq_true] at f
    unfold inV inA at ih ⊢
    rw [List.any_cons, List.any_cons, ih f.2, eq_vr q hx f.1 fx]
theorem sr_in {neg : Bool} : SdR g W (rIn g.K neg) (fIn neg) := fun ι S H x y v u σ Q s vx vy h1 => by
  unfold fIn at h1
  split at h1
  · rename_i xs ex
    split at h1
    · rename_i hf
      obtain ⟨a, vs, rfl, hq, r⟩ := getQ_ok s vy ex
      refine ⟨a, vs, rfl, hq, flat_vr vx hf.1, flats_vr r hf.2, ?_⟩
      rw [in_vr vx hf.1 r hf.2]
      exact h1 ι H (Ext.refl _ _) s _ rfl
    · exact h1.elim
  · exact h1.elim
/-! built-ins -/
theorem vrs1 {x : Va} {vs : List V} (h : VRs g ι [x] vs) : ∃ v, vs = [v] ∧ VR g ι x v := by
  cases h with | cons h t => cases t; exact ⟨_, rfl, h⟩
theorem vrs2 {x y : Va} {vs : List V} (h : VRs g ι [x, y] vs) : ∃ v u, vs = [v, u] ∧ VR g ι x v ∧ VR g ι y u := by
  cases h with | cons h t => obtain ⟨u, rfl, h2⟩ := vrs1 t; exact ⟨_, _, rfl, h, h2⟩
theorem vrs0 {vs : List V} (h : VRs g ι [] vs) : vs = [] := by cases h; rfl
theorem ints_vr {xs : List Va} {ns : List Int} {vs : List V} (e : asIs xs = some ns) (r : VRs g ι xs vs) : vs = ns.map V.int := by
  have h := allO_get e
  clear e
  induction r generalizing ns with
  | nil => cases h; rfl
  | @cons x v xs vs q t ih =>
    cases h with
    | cons h1 h2 =>
      rw [List.map_cons, ih h2]
      cases x <;> simp [asI] at h1
      cases q; rw [h1]
theorem bls_vr {xs : List Va} {ns : List Bool} {vs : List V} (e : asBs xs = some ns) (r : VRs g ι xs vs) : vs = ns.map V.bl := by
  have h := allO_get e
  clear e
  induction r generalizing ns with
  | nil => cases h; rfl
  | @cons x v xs vs q t ih =>
    cases h with
    | cons h1 h2 =>
      rw [List.map_cons, ih h2]
      cases x <;> simp [asBl] at h1
      cases q; rw [h1]
theorem getI_ok (s : Sim g ι S H) {x : Va} {v : V} {ns : List Int} (vx : VR g ι x v) (e : (getL S x).bind asIs = some ns) : ∃ a, v = .ref a ∧ SqL g.K H a (ns.map V.int) := by
  obtain ⟨xs, e1, e2⟩ := Option.bind_eq_some_iff.mp e
  obtain ⟨a, vs, h1, h2, h3⟩ := getL_ok s vx e1
  rw [ints_vr e2 h3] at h2
  exact ⟨a, h1, h2⟩
theorem getB_ok (s : Sim g ι S H) {x : Va} {v : V} {ns : List Bool} (vx : VR g ι x v) (e : (getL S x).bind asBs = some ns) : ∃ a, v = .ref a ∧ SqL g.K H a (ns.map V.bl) := by
  obtain ⟨xs, e1, e2⟩ := Option.bind_eq_some_iff.mp e
  obtain ⟨a, vs, h1, h2, h3⟩ := getL_ok s vx e1
  rw [bls_vr e2 h3] at h2
  exact ⟨a, h1, h2⟩
/-- the classes' facts -/
structure Cl (g : Gm) : Prop where
  cls : ∀ c ∈ clsL, Cls g.K (g.γ c)
  sub : ∀ c ∈ clsL, ∀ d ∈ clsL, PySem.W.kitOne g.K (.ref (g.γ c)) (.ref (g.γ d)) = some (isSub c d)
  ha : ∀ c ∈ clsL, PySem.W.findIn g.K (.ref (g.γ c)) "__class__" = some (some (.builtin "object.__class__"))
  hn : PySem.W.specialIn g.K (.builtin "object.__class__") "__get__" = some (some (.builtin "getset_descriptor.__get__"))
  ht : PySem.W.takesIn g.K (.builtin "object.__class__") = some true
  hm : ∀ c ∈ clsL, PySem.W.mroIn g.K (g.γ c) (.type "object") = some true
theorem tyB_ok (s : Sim g ι S H) {x : Va} {v : V} {t : String} (vx : VR g ι x v) (e : tyB S x = some t) : TyX g.K H v (.type t) := by
  cases x with
  | non => cases vx; cases e; exact .base .non
  | bl b => cases vx; cases e; exact .base (.bl b)
  | int b => cases vx; cases e; exact .base (.int b)
  | str b => cases vx; cases e; exact .base (.str b)
  | ref n =>
    simp only [tyB] at e
    split at e
    · rename_i ex; cases e
      obtain ⟨p, rfl, _, vs, hp, rp⟩ := s.ref ex vx
      exact .base (.lst hp)
    · rename_i ex; cases e
      obtain ⟨p, rfl, _, vs, hp, rp⟩ := s.ref ex vx
      exact .base (.tup hp)
    · rename_i ex; cases e
      obtain ⟨p, rfl, _, vs, hp, rp⟩ := s.ref ex vx
      exact .base (.dK hp)
    · cases e
  | scr ns =>
    cases e
    obtain ⟨rfl, rfl⟩ := vx
    rcases s.scr with (h | ⟨o, h⟩) | ⟨o, its, n, h1, h2, _⟩
    · exact .base (.lst h)
    · exact .base (.frz h)
    · exact .kList h1 h2
  | _ => cases e
theorem sc_isi : SdC g W (rIsi g.K) fIsi := fun ι S H xs vs σ Q s r h1 => by
  unfold fIsi at h1
  split at h1
  · rename_i x u
    obtain ⟨v, w, rfl, vx, vy⟩ := vrs2 r
    split at h1
    · rename_i t ht
      split at h1
      · rename_i b hb
        cases vy
        exact ⟨v, .ty u, .type t, .type u, b, rfl, .ty u, tyB_ok s vx ht, kit_ty hb, h1 ι H (Ext.refl _ _) s _ rfl⟩
      · exact h1.elim
    · exact h1.elim
  · exact h1.elim
theorem sc_isiC (cl : Cl g) : SdC g W (rIsi g.K) fIsiC := fun ι S H xs vs σ Q s r h1 => by
  unfold fIsiC at h1
  split at h1
  · rename_i n d
    obtain ⟨v, w, rfl, vx, vy⟩ := vrs2 r
    split at h1
    · rename_i c fs ex
      split at h1
      · rename_i hc
        cases vy
        obtain ⟨p, rfl, _, dx, ws, hp, rp⟩ := s.ref ex vx
        exact ⟨_, _, _, _, _, rfl, .own _, .base (.ins hp (cl.cls c hc.1) (cl.ha c hc.1) cl.hn cl.ht (cl.hm c hc.1)), cl.sub c hc.1 d hc.2, h1 ι H (Ext.refl _ _) s _ rfl⟩
      · exact h1.elim
    · exact h1.elim
  · exact h1.elim
def rLEN (K : PySem.W.Frag) : List V → Hp → VK → Prop := fun xs H Q => ∃ x n, xs = [x] ∧ LenV K x H n ∧ Q (.int n) H
theorem call_LEN {X : Cx} : CallR X (.builtin "len") (rLEN X.K) := call_len
theorem sc_len : SdC g W (rLEN g.K) fLen := fun ι S H xs vs σ Q s r h1 => by
  unfold fLen at h1
  split at h1
  · obtain ⟨v, rfl, vx⟩ := vrs1 r
    split at h1
    · rename_i xs ex
      obtain ⟨a, ws, rfl, hq, r⟩ := getQ_ok s vx ex
      refine ⟨.ref a, ws.length, rfl, ?_, ?_⟩
      · rcases hq with hq | hq
        · exact .inl ⟨ws, hq, rfl⟩
        · exact .inr ⟨ws, hq, rfl⟩
      · rw [← Paired.len r]; exact h1 ι H (Ext.refl _ _) s _ rfl
    · exact h1.elim
  · exact h1.elim
def rLIST (K : PySem.W.Frag) : List V → Hp → VK → Prop := fun xs H Q => ∃ p ys, xs = [.ref p] ∧ (SqL K H p ys ∨ SqT K H p ys) ∧ ∀ l, H l = none → Q (.ref l) (upd H l (.lst ys))
theorem call_LIST {X : Cx} : CallR X (.type "list") (rLIST X.K) := call_list_of
theorem sc_list : SdC g W (rLIST g.K) fList := fun ι S H xs vs σ Q s r h1 => by
  unfold fList at h1
  split at h1
  · obtain ⟨v, rfl, vx⟩ := vrs1 r
    split at h1
    · rename_i xs ex
      obtain ⟨a, ws, rfl, hq, r⟩ := getQ_ok s vx ex
      exact ⟨a, ws, rfl, hq, fun p hp => h1 _ _ (Ext.snoc hp) (s.lst hp r) _ s.newRef⟩
    · exact h1.elim
  · exact h1.elim
def rTUPLE (K : PySem.W.Frag) : List V → Hp → VK → Prop := fun xs H Q => ∃ p ys, xs = [.ref p] ∧ ((SqL K H p ys ∧ ∀ l, H l = none → Q (.ref l) (upd H l (.tup ys))) ∨ (SqT K H p ys ∧ Q (.ref p) H))
theorem call_TUPLE {X : Cx} : CallR X (.type "tuple") (rTUPLE X.K) := call_tuple_of
theorem sc_tuple : SdC g W (rTUPLE g.K) fTuple := fun ι S H xs vs σ Q s r h1 => by
  unfold fTuple at h1
  split at h1
  · obtain ⟨v, rfl, vx⟩ := vrs1 r
    split at h1
    · rename_i xs ex
      obtain ⟨a, ws, rfl, hq, r⟩ := getL_ok s vx ex
      exact ⟨a, ws, rfl, .inl ⟨hq, fun p hp => h1 _ _ (Ext.snoc hp) (s.tup hp r) _ s.newRef⟩⟩
    · exact h1.elim
  · exact h1.elim
theorem sc_sum : SdC g W (rSum g.K) fSum := fun ι S H xs vs σ Q s r h1 => by
  unfold fSum at h1
  split at h1
  · obtain ⟨v, rfl, vx⟩ := vrs1 r
    split at h1
    · rename_i ns en
      obtain ⟨a, rfl, hq⟩ := getI_ok s vx en
      exact ⟨a, ns, rfl, hq, h1 ι H (Ext.refl _ _) s _ rfl⟩
    · exact h1.elim
  · exact h1.elim
theorem sc_all : SdC g W (rAll g.K) fAll := fun ι S H xs vs σ Q s r h1 => by
  unfold fAll at h1
  split at h1
  · obtain ⟨v, rfl, vx⟩ := vrs1 r
    split at h1
    · rename_i ns en
      obtain ⟨a, rfl, hq⟩ := getB_ok s vx en
      exact ⟨a, ns, rfl, hq, h1 ι H (Ext.refl _ _) s _ rfl⟩
    · exact h1.elim
  · exact h1.elim
theorem sc_any : SdC g W (rAny g.K) fAny := fun ι S H xs vs σ Q s r h1 => by
  unfold fAny at h1
  split at h1
  · obtain ⟨v, rfl, vx⟩ := vrs1 r
    split at h1
    · rename_i ns en
      obtain ⟨a, rfl, hq⟩ := getB_ok s vx en
      exact ⟨a, ns, rfl, hq, h1 ι H (Ext.refl _ _) s _ rfl⟩
    · exact h1.elim
  · exact h1.elim
def rMAX (K : PySem.W.Frag) : List V → Hp → VK → Prop := fun xs H Q => rMax K xs H Q ∨ ∃ i j, xs = [.int i, .int j] ∧ Q (.int (if j > i then j else i)) H
def rMIN (K : PySem.W.Frag) : List V → Hp → VK → Prop := fun xs H Q => rMin K xs H Q ∨ ∃ i j, xs = [.int i, .int j] ∧ Q (.int (if j < i then j else i)) H
theorem call_MAX {X : Cx} (hc : X.calm = true) : CallR X (.builtin "max") (rMAX X.K) := (cr_max hc).or (call_max2 hc)
theorem call_MIN {X : Cx} (hc : X.calm = true) : CallR X (.builtin "min") (rMIN X.K) := (cr_min hc).or (call_min2 hc)
theorem foldl_max_ge : ∀ (l : List Int) (x : Int), x ≤ l.foldl max x ∧ ∀ y ∈ l, y ≤ l.foldl max x
  | [], x => ⟨Int.le_refl _, fun y h => by simp at h⟩
  | z :: l, x => by
    obtain ⟨h1, h2⟩ := foldl_max_ge l (max x z)
    rw [List.foldl_cons]
    refine ⟨by omega, fun y hy => ?_⟩
    rcases List.mem_cons.mp hy with rfl | hy
    · omega
    · exact h2 y hy
theorem foldl_max_mem : ∀ (l : List Int) (x : Int), l.foldl max x ∈ x :: l
  | [], x => by simp
  | z :: l, x => by
    rw [List.foldl_cons]
    rcases List.mem_cons.mp (foldl_max_mem l (max x z)) with h | h
    · rw [h]
      by_cases hz : x ≤ z
      · rw [Int.max_eq_right hz]; simp
      · rw [Int.max_eq_left (by omega)]; simp
    · exact List.mem_cons_of_mem _ (List.mem_cons_of_mem _ h)
theorem maxL_is {ns : List Int} {m : Int} (h : maxL ns = some m) : m ∈ ns ∧ ∀ y ∈ ns, y ≤ m := by
  cases ns with
  | nil => cases h
  | cons x l =>
    cases h
    refine ⟨foldl_max_mem l x, fun y hy => ?_⟩
    obtain ⟨h1, h2⟩ := foldl_max_ge l x
    rcases List.mem_cons.mp hy with rfl | hy
    · exact h1
    · exact h2 y hy
theorem sc_max : SdC g W (rMAX g.K) fMax := fun ι S H xs vs σ Q s r h1 => by
  unfold fMax at h1
  split at h1
  · rename_i i j
    obtain ⟨v, w, rfl, vx, vy⟩ := vrs2 r
    cases vx; cases vy
    refine .inr ⟨i, j, rfl, ?_⟩
    have e : (if j > i then j else i) = max i j := by split <;> omega
    rw [e]; exact h1 ι H (Ext.refl _ _) s _ rfl
  · obtain ⟨v, rfl, vx⟩ := vrs1 r
    split at h1
    · rename_i m em
      obtain ⟨ns, en, e2⟩ := Option.bind_eq_some_iff.mp em
      obtain ⟨a, rfl, hq⟩ := getI_ok s vx en
      obtain ⟨m1, m2⟩ := maxL_is e2
      refine .inl ⟨a, ns, rfl, hq, List.length_pos_of_mem m1, fun m' hm hl => ?_⟩
      have e : m' = m := by have := hl m m1; have := m2 m' hm; omega
      subst e
      exact h1 ι H (Ext.refl _ _) s _ rfl
    · exact h1.elim
  · exact h1.elim
theorem sc_min : SdC g W (rMIN g.K) fMin := fun ι S H xs vs σ Q s r h1 => by
  unfold fMin at h1
  split at h1
  · rename_i i j
    obtain ⟨v, w, rfl, vx, vy⟩ := vrs2 r
    cases vx; cases vy
    refine .inr ⟨i, j, rfl, ?_⟩
    have e : (if j < i then j else i) = min i j := by split <;> omega
    rw [e]; exact h1 ι H (Ext.refl _ _) s _ rfl
  · exact h1.elim
def rABS : List V → Hp → VK → Prop := fun xs H Q => ∃ i, xs = [.int i] ∧ Q (.int (if i < 0 then -i else i)) H
theorem call_ABS {X : Cx} : CallR X (.builtin "abs") rABS := call_abs
theorem sc_abs : SdC g W rABS fAbs := fun ι S H xs vs σ Q s r h1 => by
  unfold fAbs at h1
  split at h1
  · rename_i i
    obtain ⟨v, rfl, vx⟩ := vrs1 r
    cases vx
    refine ⟨i, rfl, ?_⟩
    have e : (if i < 0 then -i else i) = (i.natAbs : Int) := by split <;> omega
    rw [e]; exact h1 ι H (Ext.refl _ _) s _ rfl
  · exact h1.elim
/-! sorted -/
theorem sorted_uniq : ∀ {xs ys : List Int}, xs.Perm ys → xs.Pairwise (· ≤ ·) → ys.Pairwise (· ≤ ·) → xs = ys
  | [], ys, p, _, _ => by rw [List.nil_perm.mp p]
  | x :: xs, [], p, _, _ => by have := p.length_eq; simp at this
  | x :: xs, y :: ys, p, h1, h2 => by
    rw [List.pairwise_cons] at h1 h2
    have hx : x ∈ y :: ys := p.subset List.mem_cons_self
    have hy : y ∈ x :: xs := p.symm.subset List.mem_cons_self
    have e : x = y := by
      rcases List.mem_cons.mp hx with e | hx
      · exact e
      · rcases List.mem_cons.mp hy with e | hy
        · exact e.symm
        · have := h1.1 y hy; have := h2.1 x hx; omega
    subst e
    rw [sorted_uniq (List.Perm.cons_inv p) h1.2 h2.2]
theorem srt_perm (xs : List Int) : (srt xs).Perm xs := List.mergeSort_perm xs _
theorem srt_le (xs : List Int) : (srt xs).Pairwise (· ≤ ·) := by
  have h := List.pairwise_mergeSort (le := fun a b : Int => decide (a ≤ b)) (fun a b c h1 h2 => by simp at h1 h2 ⊢; omega) (fun a b => by simp; omega) xs
  exact h.imp (by simp)
theorem srt_of {xs ys : List Int} (hp : ys.Perm xs) (hs : ys.Pairwise (· ≤ ·)) : srt xs = ys := sorted_uniq ((srt_perm xs).trans hp.symm) (srt_le xs) hs
theorem mem_dd : ∀ {xs : List Int} {x : Int}, x ∈ dd xs ↔ x ∈ xs
  | [], x => by simp [dd]
  | y :: xs, x => by
    unfold dd
    split
    · rename_i h
      rw [mem_dd, List.mem_cons]
      exact ⟨.inr, fun z => z.elim (fun e => e ▸ h) id⟩
    · rw [List.mem_cons, List.mem_cons, mem_dd]
theorem nodup_dd : ∀ xs : List Int, (dd xs).Nodup
  | [] => by simp [dd]
  | y :: xs => by
    unfold dd
    split
    · exact nodup_dd xs
    · rename_i h
      exact List.nodup_cons.mpr ⟨fun z => h (mem_dd.mp z), nodup_dd xs⟩
theorem dd_of_nodup : ∀ {xs : List Int}, xs.Nodup → dd xs = xs
  | [], _ => rfl
  | y :: xs, h => by
    obtain ⟨h1, h2⟩ := List.nodup_cons.mp h
    unfold dd
    rw [if_neg h1, dd_of_nodup h2]
theorem dd_length_le : ∀ xs : List Int, (dd xs).length ≤ xs.length
  | [] => Nat.le_refl _
  | y :: xs => by
    unfold dd
    split
    · exact Nat.le_trans (dd_length_le xs) (by simp)
    · simp [dd_length_le xs]
theorem dd_length_nodup : ∀ {xs : List Int}, (dd xs).length = xs.length → xs.Nodup
  | [], _ => by simp
  | y :: xs, h => by
    unfold dd at h
    split at h
    · have := dd_length_le xs
      simp at h; omega
    · rename_i hn
      exact List.nodup_cons.mpr ⟨hn, dd_length_nodup (by simpa using h)⟩
theorem perm_of_mem {xs ys : List Int} (h1 : xs.Nodup) (h2 : ys.Nodup) (h : ∀ k, k ∈ xs ↔ k ∈ ys) : xs.Perm ys := (List.perm_ext_iff_of_nodup h1 h2).mpr h
theorem sc_sorted : SdC g W (rSortedI g.K) fSorted := fun ι S H xs vs σ Q s r h1 => by
  unfold fSorted at h1
  split at h1
  · obtain ⟨v, rfl, vx⟩ := vrs1 r
    split at h1
    · rename_i ns en
      obtain ⟨a, rfl, hq⟩ := getI_ok s vx en
      refine ⟨a, ns, rfl, hq, fun ns' p hp hs hn => ?_⟩
      rw [← srt_of hp hs]
      exact h1 _ _ (Ext.snoc hn) (s.lst hn (vr_ints _)) _ s.newRef
    · exact h1.elim
  · exact h1.elim
def rSORTD : List V → Hp → VK → Prop := fun xs H Q => ∃ (a : Addr) (kvs : List (Key × V)) (ks : List Int), xs = [.ref a] ∧ Rd H a (.dK kvs) ∧ kvs.map (·.1) = ks.map Sum.inl ∧ ks.length < 64 ∧
    ∀ (ys : List Int) (p : Addr), ys.Perm ks → ys.Pairwise (· ≤ ·) → H p = none → Q (.ref p) (upd H p (.lst (ys.map V.int)))
theorem call_SORTD {X : Cx} (hc : X.calm = true) : CallR X (.builtin "sorted") rSORTD := call_sortedDI hc
theorem keys_kr {es : List (Int × Va)} {kvs : List (Key × V)} (h : Paired (KR g ι) es kvs) : kvs.map (·.1) = (es.map (·.1)).map Sum.inl := by
  induction h with
  | nil => rfl
  | cons q t ih => rw [List.map_cons, List.map_cons, List.map_cons, ih, q.1]
theorem sc_sortedD : SdC g W rSORTD fSortedD := fun ι S H xs vs σ Q s r h1 => by
  unfold fSortedD at h1
  split at h1
  · rename_i x
    obtain ⟨v, rfl, vx⟩ := vrs1 r
    split at h1
    · rename_i ns en
      split at h1
      · rename_i hl
        unfold keysOf at en
        split at en
        · split at en
          · rename_i es ee
            cases en
            obtain ⟨p, rfl, _, kvs, hp, rp⟩ := s.ref ee vx
            refine ⟨p, kvs, _, rfl, .inl hp, keys_kr rp, hl, fun ys q hq hs hn => ?_⟩
            rw [← srt_of hq hs]
            exact h1 _ _ (Ext.snoc hn) (s.lst hn (vr_ints _)) _ s.newRef
          · cases en
        · cases en
      · exact h1.elim
    · exact h1.elim
  · exact h1.elim
end
end IL

end
section
set_option Elab.async false
set_option linter.all false
set_option maxRecDepth 100000
set_option maxHeartbeats 4000000
namespace ILS
open PySem PySem.Spec PyProof.Rows L2
/-- an empty set's object, as set(..) lays it -/
abbrev emp (w : World) : Obj := { cls := .type "set", dict := none, data := .set #[] 0 (.fresh 0 0 (!w.params.followText "set-order")) }
section
variable {P : Program} {w : World} {A : Around} {E : Value → Shared → Prop} {s : Shared}
theorem set_of_list {l : Addr} {its : Array Value} (xs : List Int) {Q : Value → Shared → Prop} (nohandle : A.handled = none) (isl : s.heap.IsList l its) (are : IntsAre its.toList xs) (few : xs.length + 1 < scanBound)
    (fin : ∀ (hp : Heap) (tk c : Nat), SetR w hp s.heap.objs.size (fun j => decide (j ∈ xs)) c → c ≤ xs.length → (∀ b o, s.heap.get? b = some o → hp.get? b = some o) → Q (.ref s.heap.objs.size) { s with heap := hp, toks := tk }) :
    wpAny (model P w) A (call (.type "set") [.ref l]) Q E s := by
  have size_eq : its.size = xs.length := by
    have z := IntsAre.length are
    rwa [Array.length_toList] at z
  obtain ⟨cc, tl, mro⟩ := F.called_set.mro
  have made := F.called_set.made; have sub := F.called_set.sub
  refine wpAny_call (codeAny_of_tree ?_)
  show wpAny _ _ (callAny (.type "set") _) _ _ _
  refine wpAny_pure ⟨Code.quiet_builtin _ (by decide +kernel), codeAny_builtin F.entry_type_call (?_)⟩
  rw [Around.under_plain (weight_type_call_type "set" [.ref l] []) (by rfl)]
  have c1 := F.called_set.notType; have c2 := F.called_set.canCreate; have c3 := F.typeCall_set_1 (.ref l)
  repeat (any_goals first | assumption | wp_step)
  refine codeAny_mono (code_set_led1 (.ref l) (E := E) (Q₁ := fun ob st => ob = .ref s.heap.objs.size ∧ st = { s with heap := s.heap.push (emp w) }) ⟨rfl, rfl⟩) fun res st hres => ?_
  cases res with
  | error e => exact hres
  | ok flow =>
    cases flow with
    | ret ob =>
      obtain ⟨rfl, rfl⟩ := hres
      have at0 : (s.heap.push (emp w)).get? s.heap.objs.size = some (emp w) := Heap.get?_push_size _ rfl
      have ty0 : Shared.TypeIs { s with heap := s.heap.push (emp w) } (.ref s.heap.objs.size) "set" := ⟨_, at0, rfl⟩
      have i1 := F.called_set.init.lookup; have i2 := F.called_set.init.bind (.ref s.heap.objs.size)
      repeat (any_goals first | assumption | wp_step)
      refine codeAny_mono (codeAny_call_builtin (R := wants (fun rv st2 => rv = .none ∧ ∃ hp tk c, st2 = { s with heap := hp, toks := tk } ∧ SetR w hp s.heap.objs.size (fun j => decide (j ∈ xs)) c ∧ c ≤ xs.length ∧
          (∀ b o, s.heap.get? b = some o → hp.get? b = some o)) E) F.called_set.init.plain F.entry_set_init (check_set_init_1 ty0 (?_))) fun res2 st2 hres2 => ?_
      · obtain ⟨ob, hob, hc, nn, hdat⟩ := isl
        obtain ⟨c0, dd, data, sl⟩ := ob
        simp only at hc hdat
        subst hc hdat
        have old : (s.heap.push (emp w)).get? l = some { cls := .type "list", dict := dd, data := .seq its nn, slots := sl } := Heap.get?_push_of_some _ hob
        have k1 := F.sub_list_set; have k2 := F.sub_list_frozenset
        have k3 : (Value.type "list" == Value.type "dict") = false := by rfl
        have isl1 : (s.heap.push (emp w)).IsList l its := ⟨_, old, rfl, nn, rfl⟩
        unfold Builtin.«set.__init__» noKeywords Builtin.Frozenset.updateFrom
        generalize ePI : pyIter = PI
        wp_walk
        subst ePI
        refine wpAny_pyIter_list isl1 (?_)
        refine wpAny_bind (wpAny_runValue (?_))
        have lt0 : l < s.heap.objs.size := Heap.lt_size hob
        have nh : A.in1.in1.in1.handled = none := by simp [nohandle]
        have neI : l ≠ (s.heap.push (emp w)).objs.size := by
          rw [Heap.size_push]
          exact Nat.ne_of_lt (Nat.lt_succ_of_lt lt0)
        have nin : s.heap.objs.size ∉ [(s.heap.push (emp w)).objs.size, l] := by
          rw [Heap.size_push]
          intro z
          rcases List.mem_cons.mp z with e | z
          · exact absurd e (Nat.ne_of_lt (Nat.lt_succ_self _))
          · exact absurd (List.mem_singleton.mp z) (Nat.ne_of_gt lt0)
        have vals : ∀ (i : Nat) (v : Value), its[i]? = some v → ∃ k t, xs[i]? = some k ∧ v = .int k t := fun i v hv => by
          have hi : i < xs.length := by
            rw [← size_eq]
            exact (Array.getElem?_eq_some_iff.mp hv).1
          obtain ⟨t, e⟩ := IntsAre.int_at are i v (by rw [Array.getElem?_toList]; exact hv)
          refine ⟨xs[i], t, List.getElem?_eq_getElem hi, ?_⟩
          rw [e, List.getD_eq_getElem?_getD, List.getElem?_eq_getElem hi] <;> rfl
        refine set_update_ints ((Walks.list nh _ l neI its).toS) s.heap.objs.size nin xs size_eq few vals (its.size - 0) 0 _ (by omega) (Nat.zero_le _) ⟨⟨_, Heap.get?_push_size _ rfl, rfl, rfl⟩, isl1.push _⟩ ?start ?stop
        case start =>
          exact ⟨0, Nat.le_refl 0, setR_new_at (Heap.get?_push_of_some _ at0)⟩
        case stop =>
          intro s' c' hm hc' hS'
          obtain ⟨hp, g2, d2, tk2, os2⟩ := s'
          have eg : g2 = s.gens := hm.gens
          have ed : d2 = s.drawn := hm.drawn
          have eo : os2 = s.os := hm.os
          subst eg ed eo
          show wpAny _ _ _ _ _ _
          refine wpAny_pure (?_)
          show wpAny _ _ (ret Value.none) _ _ _
          rw [size_eq] at hc'
          refine wpAny_pure ⟨rfl, hp, tk2, c', rfl, hS', hc', fun b o e => ?_⟩
          have lb : b < s.heap.objs.size := Heap.lt_size e
          refine hm.heap b o (fun z => ?_) (Heap.get?_push_of_some _ (Heap.get?_push_of_some _ e))
          rcases List.mem_cons.mp z with e1 | z
          · exact absurd e1 (Nat.ne_of_lt lb)
          · rw [List.mem_singleton, Heap.size_push] at z
            exact absurd z (Nat.ne_of_lt (Nat.lt_succ_of_lt lb))
      · cases res2 with
        | error e => exact hres2
        | ok flow2 =>
          cases flow2 with
          | ret rv =>
            obtain ⟨rfl, hp, tk, c', rfl, hS', hc', hk'⟩ := hres2
            repeat (any_goals first | assumption | wp_step)
            exact fin _ _ _ hS' hc' hk'
          | _ => exact hres2.elim
    | _ => exact hres.elim
end
end ILS
namespace IL
open PySem PySem.Spec PyProof.Rows L2
/-- set(xs), xs a list of ints -/
def rSET (K : PySem.W.Frag) (w : World) : List V → Hp → VK → Prop := fun vs H Q => ∃ (l : Addr) (xs : List Int), vs = [.ref l] ∧ SqL K H l (xs.map V.int) ∧ xs.length ≤ 1000 ∧ ∀ p c, H p = none → c ≤ xs.length → Q (.ref p) (upd H p (SetO w p (fun j => decide (j ∈ xs)) c))
theorem call_SET {X : Cx} (hc : X.calm = true) : CallR X (.type "set") (rSET X.K X.w) := by
  intro pins s σ H vs us Q I r h
  obtain ⟨l, xs, rfl, hs, hl, q⟩ := h
  obtain ⟨its, rv, pl, _⟩ := I.list hs
  rw [Vals.ref1 r]
  refine ILS.set_of_list xs (I.ok.hd hc) pl.isList (by simpa using rv.ints) (by unfold scanBound; omega) fun hp tk c R hcn k => ?_
  exact ⟨.ref s.heap.objs.size, _, I.laid (a := s.heap.objs.size) (o := SetO X.w s.heap.objs.size (fun j => decide (j ∈ xs)) c) (t' := tk) (fun b o e => k b o e) (Nat.le_refl _) (setO_new R), rfl, q _ c I.fresh hcn⟩
/-- len(s), s a set of ints -/
def rLENSET (w : World) : List V → Hp → VK → Prop := fun vs H Q => ∃ (a : Addr) (S : Int → Bool) (n : Nat), vs = [.ref a] ∧ H a = some (SetO w a S n) ∧ ∀ L : List Int, L.Nodup → (∀ k, k ∈ L ↔ S k = true) → L.length = n → Q (.int (n : Int)) H
theorem call_LENSET {X : Cx} : CallR X (.builtin "len") (rLENSET X.w) := by
  intro pins s σ H vs us Q I r h
  obtain ⟨a, S, n, rfl, ha, q⟩ := h
  obtain ⟨o, es, ep, t, ho, hex, hd, g, nd, hm, hb, hf, hn, hr, hl⟩ := setO_get I ha
  rw [Vals.ref1 r]
  refine call_len_set ho hex hd hf (by unfold scanBound at hb; omega) ⟨.int n, H, I.tok _, ⟨_, by rw [hn]⟩, ?_⟩
  exact q (es.toList.map L2.keyOf) nd (fun k => (hm k).symm) (by rw [List.length_map, Array.length_toList, hn])
end IL

end
section
set_option Elab.async false
set_option linter.all false
set_option maxRecDepth 100000
set_option maxHeartbeats 2000000
namespace IL
open PySem L2
section
variable {g : Gm} {W : WH} {ι : List Addr} {S : Sto} {H : Hp} {ta tb te : TE} {ia ib ie : IE}
/-! ### sets -/
theorem sd_sortedSet {w : World} {t : TA} {i : IA} (ha : SdA g W t i) : SdE g W (tCB (rSortedSet w) (tCons (tCB (rSET g.K w) t) tNil)) (iCB fSortedSet i) := fun ι ρ S σ H Q s e h =>
  ha ι ρ S σ H _ s e (h.then fun xs ι1 S1 H1 l s1 h1 vs r => by
    unfold fSortedSet at h1
    split at h1
    · obtain ⟨v, rfl, vx⟩ := vrs1 r
      split at h1
      · rename_i ns en
        split at h1
        · rename_i hl
          obtain ⟨a, rfl, hq⟩ := getI_ok s1 vx en
          refine ⟨a, ns, rfl, hq, by omega, fun p c hp hc => ⟨p, _, c, rfl, upd_same, by omega, fun ms q h2 h3 h4 hq' => ?_⟩⟩
          have hm : ∀ k, k ∈ ms ↔ k ∈ dd ns := fun k => by rw [h3, mem_dd, decide_eq_true_iff]
          have hnd : ms.Nodup := h2.imp fun h => by omega
          have e : srt (dd ns) = ms := srt_of (perm_of_mem hnd (nodup_dd ns) hm) (h2.imp fun h => by omega)
          rw [← e]
          have s2 : Sim g ι1 S1 (upd H1 p (SetO w p (fun j => decide (j ∈ ns)) c)) := s1.more hp
          exact h1 _ _ ((Ext.new hp).trans (Ext.snoc hq')) (s2.lst hq' (vr_ints _)) _ s2.newRef
        · exact h1.elim
      · exact h1.elim
    · exact h1.elim)
theorem sd_lenSet {w : World} {t : TA} {i : IA} (ha : SdA g W t i) : SdE g W (tCB (rLENSET w) (tCons (tCB (rSET g.K w) t) tNil)) (iCB fLenSet i) := fun ι ρ S σ H Q s e h =>
  ha ι ρ S σ H _ s e (h.then fun xs ι1 S1 H1 l s1 h1 vs r => by
    unfold fLenSet at h1
    split at h1
    · obtain ⟨v, rfl, vx⟩ := vrs1 r
      split at h1
      · rename_i ns en
        split at h1
        · rename_i hl
          obtain ⟨a, rfl, hq⟩ := getI_ok s1 vx en
          refine ⟨a, ns, rfl, hq, hl, fun p c hp hc => ⟨p, _, c, rfl, upd_same, fun L h2 h3 h4 => ?_⟩⟩
          have hm : ∀ k, k ∈ L ↔ k ∈ dd ns := fun k => by rw [h3, mem_dd, decide_eq_true_iff]
          have e : c = (dd ns).length := by rw [← h4]; exact (perm_of_mem h2 (nodup_dd ns) hm).length_eq
          subst e
          exact h1 _ _ (Ext.new hp) (s1.more hp) _ rfl
        · exact h1.elim
      · exact h1.elim
    · exact h1.elim)
/-! ### methods of lists -/
theorem sd_bm {r : V → List V → Hp → VK → Prop} {f : Va → List Va → Sto → R Va} {t : TA} {i : IA} (hr : SdM g W r f) (ho : SdE g W ta ia) (ha : SdA g W t i) : SdE g W (tBM g.K "list" r ta t) (iBM f ia i) := fun ι ρ S σ H Q s e h =>
  ho ι ρ S σ H _ s e (h.then fun x ι1 S1 H1 l s1 h1 v vx => by
    try dsimp only at h1
    split at h1
    · rename_i ys hy
      refine ⟨?_, ha ι1 ρ S1 σ H1 _ s1 (e.mono l.le) (h1.then fun xs ι2 S2 H2 l2 s2 h2 vs r => hr ι2 S2 H2 x v xs vs σ Q s2 (vx.mono l2.le) r h2)⟩
      obtain ⟨a, vs, rfl, hq, _⟩ := getL_ok s1 vx hy
      exact .inl ⟨rfl, vs, hq⟩
    · exact h1.elim)
theorem sd_bm0 {r : V → List V → Hp → VK → Prop} {f : Va → List Va → Sto → R Va} (hr : SdM g W r f) (ho : SdE g W ta ia) : SdE g W (tBM0 g.K "list" r ta) (iBM f ia iNil) := fun ι ρ S σ H Q s e h =>
  ho ι ρ S σ H _ s e (h.then fun x ι1 S1 H1 l s1 h1 v vx => by
    try dsimp only at h1
    split at h1
    · rename_i ys hy
      refine ⟨?_, hr ι1 S1 H1 x v [] [] σ Q s1 vx .nil h1⟩
      obtain ⟨a, vs, rfl, hq, _⟩ := getL_ok s1 vx hy
      exact .inl ⟨rfl, vs, hq⟩
    · exact h1.elim)
theorem notFrz_lst {a : Addr} {vs : List V} (h : H a = some (.lst vs)) : ∀ ob u, H a ≠ some (.frz ob u) := fun ob u z => by rw [h] at z; cases z
theorem Sim.putL (s : Sim g ι S H) {n : Nat} {a : Addr} {vs ws : List V} {xs : List Va} (e : ι[n]? = some a) (h : H a = some (.lst vs)) (r : VRs g ι xs ws) : Sim g ι (S.set n (.lst xs)) (upd H a (.lst ws)) := s.put e (notFrz_lst h) ⟨ws, upd_same, r⟩
theorem sm_append : SdM g W rAppend mAppend := fun ι S H x v xs vs σ Q s vx r h1 => by
  unfold mAppend at h1
  split at h1
  · rename_i n y
    split at h1
    · rename_i zs ez
      split at h1
      · rename_i hl
        obtain ⟨u, rfl, vy⟩ := vrs1 r
        obtain ⟨a, rfl, ea, ws, hp, rp⟩ := s.ref ez vx
        exact ⟨a, ws, u, rfl, rfl, hp, Evl.sz_lt (by rw [← Paired.len rp]; exact hl), h1 _ _ (Ext.put ea (notFrz_lst hp)) (s.putL ea hp (Paired.append rp (.cons vy .nil))) _ rfl⟩
      · exact h1.elim
    · exact h1.elim
  · exact h1.elim
theorem sm_extend : SdM g W rExtend mExtend := fun ι S H x v xs vs σ Q s vx r h1 => by
  unfold mExtend at h1
  split at h1
  · rename_i n m
    split at h1
    · rename_i zs ys ez ey
      split at h1
      · rename_i hl
        obtain ⟨u, rfl, vy⟩ := vrs1 r
        obtain ⟨a, rfl, ea, ws, hp, rp⟩ := s.ref ez vx
        obtain ⟨b, rfl, eb, us, hq, rq⟩ := s.ref ey vy
        exact ⟨a, b, ws, us, rfl, rfl, hp, hq, sz (by rw [← Paired.len rp, ← Paired.len rq]; exact hl), h1 _ _ (Ext.put ea (notFrz_lst hp)) (s.putL ea hp (Paired.append rp rq)) _ rfl⟩
      · exact h1.elim
    · exact h1.elim
  · exact h1.elim
theorem sm_pop : SdM g W rPop mPop := fun ι S H x v xs vs σ Q s vx r h1 => by
  unfold mPop at h1
  split at h1
  · rename_i n
    split at h1
    · rename_i zs ez
      split at h1
      · rename_i y ey
        cases vrs0 r
        obtain ⟨a, rfl, ea, ws, hp, rp⟩ := s.ref ez vx
        obtain ⟨u, hu, ru⟩ := Paired.get rp ey
        refine ⟨a, ws, u, rfl, rfl, hp, by rw [← Paired.len rp]; exact hu, h1 _ _ (Ext.put ea (notFrz_lst hp)) (s.putL ea hp ?_) _ ru⟩
        rw [List.dropLast_eq_take, List.dropLast_eq_take, ← Paired.len rp]
        exact Paired.take _ rp
      · exact h1.elim
    · exact h1.elim
  · exact h1.elim
theorem sm_reverse : SdM g W rReverse mReverse := fun ι S H x v xs vs σ Q s vx r h1 => by
  unfold mReverse at h1
  split at h1
  · rename_i n
    split at h1
    · rename_i zs ez
      cases vrs0 r
      obtain ⟨a, rfl, ea, ws, hp, rp⟩ := s.ref ez vx
      exact ⟨a, ws, rfl, rfl, hp, h1 _ _ (Ext.put ea (notFrz_lst hp)) (s.putL ea hp (Paired.reverse rp)) _ rfl⟩
    · exact h1.elim
  · exact h1.elim
theorem flatAt {xs : List Va} (f : xs.all flatA = true) {j : Nat} {z : Va} (h : xs[j]? = some z) : flatA z = true := List.all_eq_true.mp f z (List.mem_of_getElem? h)
theorem Paired.getR {α β : Type} {F : α → β → Prop} : ∀ {xs : List α} {us : List β} {i : Nat} {u : β}, Paired F xs us → us[i]? = some u → ∃ x, xs[i]? = some x ∧ F x u
  | _, _, _, _, .nil, e => by simp at e
  | _, _, 0, _, .cons r _, e => by simp at e; subst e; exact ⟨_, rfl, r⟩
  | _, _, i + 1, x, .cons _ t, e => by
    obtain ⟨u, h1, h2⟩ := Paired.getR (i := i) (u := x) t (by simpa using e)
    exact ⟨u, by simpa using h1, h2⟩
theorem sm_index : SdM g W (rIndex g.K) mIndex := fun ι S H x v xs vs σ Q s vx r h1 => by
  unfold mIndex at h1
  split at h1
  · rename_i y
    split at h1
    · rename_i zs ez
      split at h1
      · rename_i hf
        split at h1
        · rename_i j ej
          obtain ⟨u, rfl, vy⟩ := vrs1 r
          obtain ⟨a, ws, rfl, hq, rp⟩ := getL_ok s vx ez
          obtain ⟨hj, hz, hlt⟩ := List.findIdx?_eq_some_iff_getElem.mp ej
          have ez' : zs[j]? = some zs[j] := by simp [hj]
          obtain ⟨z, e1, e2⟩ := Paired.get rp ez'
          refine ⟨a, ws, u, j, z, rfl, rfl, hq, flat_vr vy hf.1, flats_vr rp hf.2, e1, ?_, fun m z' hm em => ?_, h1 _ _ (Ext.refl _ _) s _ rfl⟩
          · rw [eq_vr e2 vy (flatAt hf.2 ez') hf.1]; exact hz
          · obtain ⟨zz, e3, e4⟩ := Paired.getR rp em
            rw [eq_vr e4 vy (flatAt hf.2 e3) hf.1]
            have := hlt m hm
            obtain ⟨hm', e5⟩ := List.getElem?_eq_some_iff.mp e3
            rw [e5] at this
            simpa using this
        · exact h1.elim
      · exact h1.elim
    · exact h1.elim
  · exact h1.elim
/-! ### slices -/
theorem cut_vr {xs : List Va} {vs : List V} (r : VRs g ι xs vs) (lo hi : Option Int) : VRs g ι (cut xs lo hi) (cutV vs lo hi) := by
  unfold cut cutV
  rw [← Paired.len r]
  exact Paired.take _ (Paired.drop _ r)
def SdO (g : Gm) (W : WH) (t : TO) (i : IO) : Prop := ∀ ι ρ S σ H (Q : Option Int → Hp → Prop), Sim g ι S H → ER g ι ρ σ → P g ι H (W · σ) (fun b _ H' => Q b H') (i ρ S) → t σ H Q
theorem so_none : SdO g W tNoPart iNoPart := fun ι ρ S σ H Q s e h => h ι H (Ext.refl _ _) s
theorem so_some (ha : SdE g W ta ia) : SdO g W (tPart ta) (iPart ia) := fun ι ρ S σ H Q s e h =>
  ha ι ρ S σ H _ s e (h.then fun x ι1 S1 H1 l s1 h1 v vx => by
    try dsimp only at h1
    split at h1
    · cases vx
      exact ⟨_, rfl, h1 _ _ (Ext.refl _ _) s1⟩
    · exact h1.elim)
theorem sd_sl {tl th : TO} {il ih : IO} (ha : SdE g W ta ia) (hl : SdO g W tl il) (hh : SdO g W th ih) : SdE g W (tSl (rSlL g.K) ta tl th) (iSl ia il ih) := fun ι ρ S σ H Q s e h =>
  ha ι ρ S σ H _ s e (h.then fun x ι1 S1 H1 l1 s1 h1 v vx => hl ι1 ρ S1 σ H1 _ s1 (e.mono l1.le) (h1.then fun lo ι2 S2 H2 l2 s2 h2 => hh ι2 ρ S2 σ H2 _ s2 ((e.mono l1.le).mono l2.le) (h2.then fun hi ι3 S3 H3 l3 s3 h3 => by
    try dsimp only at h3
    split at h3
    · rename_i xs ex
      obtain ⟨a, vs, rfl, hq, r⟩ := getL_ok s3 ((vx.mono l2.le).mono l3.le) ex
      exact ⟨a, vs, rfl, hq, fun p hp => h3 _ _ (Ext.snoc hp) (s3.lst hp (cut_vr r lo hi)) _ s3.newRef⟩
    · exact h3.elim)))
theorem sd_rev (ha : SdE g W ta ia) : SdE g W (tRevL g.K ta) (iRev ia) := fun ι ρ S σ H Q s e h =>
  ha ι ρ S σ H _ s e (h.then fun x ι1 S1 H1 l1 s1 h1 v vx => by
    try dsimp only at h1
    split at h1
    · rename_i xs ex
      obtain ⟨a, vs, rfl, hq, r⟩ := getL_ok s1 vx ex
      exact ⟨a, vs, rfl, hq, fun p hp => h1 _ _ (Ext.snoc hp) (s1.lst hp (Paired.reverse r)) _ s1.newRef⟩
    · exact h1.elim)
/-! ### dicts -/
theorem inl_dec (a b : Int) : decide ((Sum.inl a : Key) = Sum.inl b) = decide (a = b) := by
  by_cases h : a = b
  · subst h; simp
  · rw [decide_eq_false h]; exact decide_eq_false fun z => h (Sum.inl.inj z)
theorem kr_find {es : List (Int × Va)} {kvs : List (Key × V)} (k : Int) (r : Paired (KR g ι) es kvs) : (lkD es k = none ∧ valV kvs (.inl k) = none) ∨ ∃ d v, lkD es k = some d ∧ valV kvs (.inl k) = some v ∧ VR g ι d v := by
  induction r with
  | nil => exact .inl ⟨rfl, rfl⟩
  | @cons e kv es kvs q t ih =>
    obtain ⟨k', d⟩ := e
    obtain ⟨k2, v⟩ := kv
    obtain ⟨q1, q2⟩ := q
    dsimp only at q1 q2
    subst q1
    by_cases e : k' = k
    · subst e
      refine .inr ⟨d, v, ?_, valV_pos rfl, q2⟩
      simp [lkD, List.find?_cons]
    · have e' : ¬ ((Sum.inl k' : Key) = Sum.inl k) := fun z => e (Sum.inl.inj z)
      rw [valV_neg e']
      have : lkD ((k', d) :: es) k = lkD es k := by simp [lkD, List.find?_cons, e]
      rw [this]
      exact ih
theorem kr_any {es : List (Int × Va)} {kvs : List (Key × V)} (k : Int) (r : Paired (KR g ι) es kvs) : (kvs.any fun kv => decide (kv.1 = .inl k)) = es.any fun e => decide (e.1 = k) := by
  induction r with
  | nil => rfl
  | cons q t ih => rw [List.any_cons, List.any_cons, ih, q.1, inl_dec]
theorem kr_map {es : List (Int × Va)} {kvs : List (Key × V)} {d : Va} {v : V} (k : Int) (h : VR g ι d v) (r : Paired (KR g ι) es kvs) : Paired (KR g ι) (es.map fun e => if e.1 = k then (e.1, d) else e) (kvs.map fun kv => if kv.1 = .inl k then (kv.1, v) else kv) := by
  induction r with
  | nil => exact .nil
  | @cons e kv es kvs q t ih =>
    rw [List.map_cons, List.map_cons]
    refine .cons ?_ ih
    obtain ⟨q1, q2⟩ := q
    by_cases e1 : e.1 = k
    · rw [if_pos e1, if_pos (by rw [q1, e1])]
      exact ⟨q1, h⟩
    · rw [if_neg e1, if_neg (by rw [q1]; exact fun z => e1 (Sum.inl.inj z))]
      exact ⟨q1, q2⟩
theorem kr_put {es : List (Int × Va)} {kvs : List (Key × V)} {d : Va} {v : V} (k : Int) (r : Paired (KR g ι) es kvs) (h : VR g ι d v) : Paired (KR g ι) (putD es k d) (putK kvs (.inl k) v) := by
  unfold putK putD
  rw [kr_any k r]
  split
  · exact kr_map k h r
  · exact Paired.append r (.cons ⟨rfl, h⟩ .nil)
theorem getD_ok (s : Sim g ι S H) {x : Va} {v : V} {es : List (Int × Va)} (vx : VR g ι x v) (e : getD S x = some es) : ∃ a kvs, v = .ref a ∧ H a = some (.dK kvs) ∧ Paired (KR g ι) es kvs := by
  unfold getD at e
  split at e
  · split at e
    · rename_i ex
      cases e
      obtain ⟨p, rfl, _, vs, hp, rp⟩ := s.ref ex vx
      exact ⟨p, vs, rfl, hp, rp⟩
    · cases e
  · cases e
theorem sd_dnew : SdE g W tDNewK iDNew := fun ι ρ S σ H Q s e h p hp => h _ _ (Ext.snoc hp) (s.alloc hp ⟨[], upd_same, .nil⟩) _ s.newRef
theorem sd_dget (ha : SdE g W ta ia) (hb : SdE g W tb ib) : SdE g W (tDGet ta tb) (iDGet ia ib) := fun ι ρ S σ H Q s e h =>
  ha ι ρ S σ H _ s e (h.then fun x ι1 S1 H1 l s1 h1 v vx => hb ι1 ρ S1 σ H1 _ s1 (e.mono l.le) (h1.then fun y ι2 S2 H2 l2 s2 h2 u vy => by
    try dsimp only at h2
    split at h2
    · rename_i es k ee
      split at h2
      · rename_i d ed
        obtain ⟨a, kvs, rfl, hd, r⟩ := getD_ok s2 (vx.mono l2.le) ee
        cases vy
        rcases kr_find k r with ⟨z, _⟩ | ⟨d', w, z, zv, zd⟩
        · rw [ed] at z; cases z
        · rw [ed] at z; cases z
          exact ⟨a, w, rfl, by have := DGet.k (k := Sum.inl k) hd; rw [zv] at this; exact this, h2 _ _ (Ext.refl _ _) s2 _ zd⟩
      · exact h2.elim
    · exact h2.elim))
theorem sd_din (ha : SdE g W ta ia) (hb : SdE g W tb ib) : SdE g W (tDIn ta tb) (iDIn false ia ib) := fun ι ρ S σ H Q s e h =>
  ha ι ρ S σ H _ s e (h.then fun x ι1 S1 H1 l s1 h1 v vx => hb ι1 ρ S1 σ H1 _ s1 (e.mono l.le) (h1.then fun y ι2 S2 H2 l2 s2 h2 u vy => by
    try dsimp only at h2
    split at h2
    · rename_i es k ee
      obtain ⟨a, kvs, rfl, hd, r⟩ := getD_ok s2 vy ee
      cases vx
      refine ⟨a, _, rfl, DGet.k (k := Sum.inl k) hd, ?_⟩
      have := h2 _ _ (Ext.refl _ _) s2 _ rfl
      rcases kr_find k r with ⟨z, z2⟩ | ⟨d', w, z, zv, zd⟩
      · rw [z] at this; rw [z2]; exact this
      · rw [z] at this; rw [zv]; exact this
    · exact h2.elim))
theorem sd_dni (ha : SdE g W ta ia) (hb : SdE g W tb ib) : SdE g W (tDNotIn ta tb) (iDIn true ia ib) := fun ι ρ S σ H Q s e h =>
  ha ι ρ S σ H _ s e (h.then fun x ι1 S1 H1 l s1 h1 v vx => hb ι1 ρ S1 σ H1 _ s1 (e.mono l.le) (h1.then fun y ι2 S2 H2 l2 s2 h2 u vy => by
    try dsimp only at h2
    split at h2
    · rename_i es k ee
      obtain ⟨a, kvs, rfl, hd, r⟩ := getD_ok s2 vy ee
      cases vx
      refine ⟨a, _, rfl, DGet.k (k := Sum.inl k) hd, ?_⟩
      have := h2 _ _ (Ext.refl _ _) s2 _ rfl
      rcases kr_find k r with ⟨z, z2⟩ | ⟨d', w, z, zv, zd⟩
      · rw [z] at this; rw [z2]; exact this
      · rw [z] at this; rw [zv]; exact this
    · exact h2.elim))
theorem sd_disp1 (ha : SdE g W ta ia) (hb : SdE g W tb ib) : SdE g W (tDisp [(ta, tb)]) (iDisp1 ia ib) := fun ι ρ S σ H Q s e h p hp => by
  have nin : p ∉ ι := s.fresh hp
  have s0 : Sim g ι S (upd H p (.dK [])) := s.more hp
  have e0 : Ext ι H ι (upd H p (.dK [])) := Ext.new hp
  refine ha ι ρ S σ _ _ s0 e (h.thenB e0 fun x ι1 S1 H1 l s1 h1 v vx => hb ι1 ρ S1 σ H1 _ s1 (e.mono l.le) (h1.thenB (e0.trans l) fun y ι2 S2 H2 l2 s2 h2 u vy => ?_))
  obtain ⟨np, ep⟩ := (l.trans l2).fr p nin (by rw [upd_same]; intro z; cases z)
  rw [upd_same] at ep
  refine ⟨ep, ?_⟩
  try dsimp only at h2
  split at h2
  · rename_i k
    cases (vx.mono l2.le)
    refine ⟨[(.inl k, u)], rfl, by simp, ?_⟩
    exact h2 (ι2 ++ [p]) _ (Ext.join hp (l.trans l2)) (s2.join np (fun ob u z => by rw [ep] at z; cases z) ⟨_, upd_same, .cons ⟨rfl, vy.mono (Le.snoc _ _)⟩ .nil⟩) _ s2.newRef
  · exact h2.elim
/-! ### fields, list(range(..)) -/
theorem fr_lookup {f : Str} {fs : List (Str × Va)} {vs : List (Str × V)} {d : Va} (r : Paired (FR g ι) fs vs) (h : fs.lookup f = some d) : ∃ v, vs.lookup f = some v ∧ VR g ι d v := by
  induction r with
  | nil => simp [List.lookup] at h
  | @cons e kv fs vs q t ih =>
    obtain ⟨k, x⟩ := e
    obtain ⟨k2, v⟩ := kv
    obtain ⟨q1, q2⟩ := q
    dsimp only at q1 q2
    subst q1
    rw [List.lookup_cons] at h ⊢
    cases z : f == k2 with
    | true => rw [z] at h; simp at h; subst h; exact ⟨v, rfl, q2⟩
    | false => rw [z] at h; exact ih h
theorem fr_lookupN {f : Str} {fs : List (Str × Va)} {vs : List (Str × V)} (r : Paired (FR g ι) fs vs) (h : fs.lookup f = none) : vs.lookup f = none := by
  induction r with
  | nil => rfl
  | @cons e kv fs vs q t ih =>
    obtain ⟨k, x⟩ := e
    obtain ⟨k2, v⟩ := kv
    obtain ⟨q1, q2⟩ := q
    dsimp only at q1 q2
    subst q1
    rw [List.lookup_cons] at h ⊢
    cases z : f == k2 with
    | true => rw [z] at h; simp at h
    | false => rw [z] at h; exact ih h
theorem getO_ok (s : Sim g ι S H) {x : Va} {v : V} {c : Str} {fs : List (Str × Va)} (vx : VR g ι x v) (e : getO S x = some (c, fs)) : ∃ a dx vs, v = .ref a ∧ H a = some (.ins (g.γ c) dx vs) ∧ Paired (FR g ι) fs vs := by
  unfold getO at e
  split at e
  · split at e
    · rename_i ex
      cases e
      obtain ⟨p, rfl, _, dx, vs, hp, rp⟩ := s.ref ex vx
      exact ⟨p, dx, vs, rfl, hp, rp⟩
    · cases e
  · cases e
theorem sd_fld {f : Str} (cl : Cl g) (na : ∀ c ∈ clsL, NoAttr g.K (g.γ c) f) (ha : SdE g W ta ia) : SdE g W (tFld g.K ta f) (iFld ia f) := fun ι ρ S σ H Q s e h =>
  ha ι ρ S σ H _ s e (h.then fun x ι1 S1 H1 l1 s1 h1 v vx => by
    try dsimp only at h1
    split at h1
    · rename_i c fs eo
      split at h1
      · rename_i hc
        split at h1
        · rename_i d ed
          obtain ⟨a, dx, vs, rfl, hp, r⟩ := getO_ok s1 vx eo
          obtain ⟨w, e1, e2⟩ := fr_lookup r ed
          exact ⟨a, _, dx, vs, w, rfl, hp, cl.cls c hc, na c hc, e1, h1 _ _ (Ext.refl _ _) s1 _ e2⟩
        · exact h1.elim
      · exact h1.elim
    · exact h1.elim)
theorem rgV_rng (a b : Int) : VRs g ι ((rng a b).map .int) (rgV a b) := by
  have e : rgV a b = (rng a b).map V.int := by unfold rgV rng; rw [List.map_map]; rfl
  rw [e]; exact vr_ints _
theorem sd_listRg (ha : SdE g W ta ia) : SdE g W (tLstRg (tRg1 ta)) (iListRg ia) := fun ι ρ S σ H Q s e h =>
  ha ι ρ S σ H _ s e (h.then fun x ι1 S1 H1 l1 s1 h1 v vx => by
    try dsimp only at h1
    split at h1
    · rename_i n
      split at h1
      · rename_i hn
        cases vx
        exact ⟨n, rfl, RgOk.of_le (by omega) (by omega) (by omega) (by omega), fun p hp => h1 _ _ (Ext.snoc hp) (s1.lst hp (rgV_rng 0 n)) _ s1.newRef⟩
      · exact h1.elim
    · exact h1.elim)
end
end IL

end
section
set_option linter.all false
set_option maxRecDepth 100000
namespace IL
open PySem L2
/-! ### one step of the machine, for simp -/
section
variable {ρ : Env} {S : Sto} {a b c o e : IE} {t u : IT} {i j : IS} {A : IA} {f : Str}
@[simp] theorem x_var {k : Nat} : iVar k ρ S = match ρ[k]? with | some (some v) => .ok v S | _ => .no := rfl
@[simp] theorem x_c {v : Va} : iC v ρ S = .ok v S := rfl
@[simp] theorem x_op {f : Va → Va → Sto → R Va} : iOp f a b ρ S = (a ρ S).bind fun x S1 => (b ρ S1).bind fun y S2 => f x y S2 := rfl
@[simp] theorem x_un {f : Va → Sto → R Va} : iUn f a ρ S = (a ρ S).bind fun x S1 => f x S1 := rfl
@[simp] theorem x_nil : iNil ρ S = .ok [] S := rfl
@[simp] theorem x_cons : iCons a A ρ S = (a ρ S).bind fun x S1 => (A ρ S1).bind fun xs S2 => .ok (x :: xs) S2 := rfl
@[simp] theorem x_lst : iLst A ρ S = (A ρ S).bind fun xs S1 => .ok (.ref S1.length) (S1 ++ [.lst xs]) := rfl
@[simp] theorem x_tup : IL.iTup A ρ S = (A ρ S).bind fun xs S1 => .ok (.ref S1.length) (S1 ++ [.tup xs]) := rfl
@[simp] theorem x_cb {f : List Va → Sto → R Va} : iCB f A ρ S = (A ρ S).bind fun xs S1 => f xs S1 := rfl
@[simp] theorem x_asB {k : Bool} : asB (.bl k) S = .ok k S := rfl
@[simp] theorem x_B : iB a ρ S = (a ρ S).bind asB := rfl
@[simp] theorem x_and : iAnd t u ρ S = (t ρ S).bind fun c S1 => if c = true then u ρ S1 else .ok false S1 := rfl
@[simp] theorem x_or : IL.iOr t u ρ S = (t ρ S).bind fun c S1 => if c = true then .ok true S1 else u ρ S1 := rfl
@[simp] theorem x_not : iNot t ρ S = (t ρ S).bind fun c S1 => .ok (!c) S1 := rfl
@[simp] theorem x_yes : iYes ρ S = .ok true S := rfl
@[simp] theorem x_andV : iAndV a b ρ S = (a ρ S).bind fun x S1 => (asB x S1).bind fun c S1 => if c = true then b ρ S1 else .ok (.bl false) S1 := rfl
@[simp] theorem x_orV : iOrV a b ρ S = (a ρ S).bind fun x S1 => (asB x S1).bind fun c S1 => if c = true then .ok (.bl true) S1 else b ρ S1 := rfl
@[simp] theorem x_notV : iNotV a ρ S = (a ρ S).bind fun x S1 => (asB x S1).bind fun c S1 => .ok (.bl (!c)) S1 := rfl
@[simp] theorem x_if : iIf t a b ρ S = (t ρ S).bind fun c S1 => if c = true then a ρ S1 else b ρ S1 := rfl
@[simp] theorem x_chain {f f' : Va → Va → Sto → R Va} : iChain f f' a b c ρ S = (a ρ S).bind fun x S1 => (b ρ S1).bind fun y S2 => (f x y S2).bind fun z S3 => (asB z S3).bind fun k S3 => if k = true then (c ρ S3).bind fun w S4 => f' y w S4 else .ok (.bl false) S3 := rfl
@[simp] theorem x_II {k : Int → Int → Va} {x y : Int} : fII k (.int x) (.int y) S = .ok (k x y) S := rfl
@[simp] theorem x_add {x y : Int} : fAdd (.int x) (.int y) S = .ok (.int (x + y)) S := rfl
@[simp] theorem x_bm {f : Va → List Va → Sto → R Va} : iBM f o A ρ S = (o ρ S).bind fun x S1 => match getL S1 x with | some _ => (A ρ S1).bind fun xs S2 => f x xs S2 | none => .no := rfl
@[simp] theorem x_noPart : iNoPart ρ S = .ok none S := rfl
@[simp] theorem x_part : iPart a ρ S = (a ρ S).bind fun x S1 => match x with | .int i => .ok (some i) S1 | _ => .no := rfl
@[simp] theorem x_sl {lo hi : IL.IO} : iSl a lo hi ρ S = (a ρ S).bind fun x S1 => (lo ρ S1).bind fun l S2 => (hi ρ S2).bind fun h S3 => match getL S3 x with | some xs => .ok (.ref S3.length) (S3 ++ [.lst (cut xs l h)]) | none => .no := rfl
@[simp] theorem x_rev : iRev a ρ S = (a ρ S).bind fun x S1 => match getL S1 x with | some xs => .ok (.ref S1.length) (S1 ++ [.lst xs.reverse]) | none => .no := rfl
@[simp] theorem x_dnew : iDNew ρ S = .ok (.ref S.length) (S ++ [.dic []]) := rfl
@[simp] theorem x_fld : iFld a f ρ S = (a ρ S).bind fun x S1 => match getO S1 x with | some (c, fs) => if c ∈ clsL then match fs.lookup f with | some v => .ok v S1 | none => .no else .no | none => .no := rfl
@[simp] theorem x_listRg : iListRg a ρ S = (a ρ S).bind fun x S1 => match x with | .int n => if 0 ≤ n ∧ n ≤ 100000 then .ok (.ref S1.length) (S1 ++ [.lst ((rng 0 n).map .int)]) else .no | _ => .no := rfl
@[simp] theorem x_itList : itList a ρ S = (a ρ S).bind fun x S1 => match getL S1 x with | some xs => .ok ⟨xs.map .one, sameAt S1 x⟩ S1 | none => .no := rfl
@[simp] theorem x_itTup : itTup a ρ S = (a ρ S).bind fun x S1 => match getT S1 x with | some xs => .ok ⟨xs.map .one, sameAt S1 x⟩ S1 | none => .no := rfl
@[simp] theorem x_itRng : itRng a ρ S = (a ρ S).bind fun x S1 => match x with | .int n => if -100000 ≤ n ∧ n ≤ 100000 then .ok ⟨(rng 0 n).map fun i => .one (.int i), fun _ => true⟩ S1 else .no | _ => .no := rfl
@[simp] theorem x_itEnum : itEnum a ρ S = (a ρ S).bind fun x S1 => match getL S1 x with | some xs => .ok ⟨enuI 0 xs, sameAt S1 x⟩ S1 | none => .no := rfl
@[simp] theorem x_itZip : itZip a b ρ S = (a ρ S).bind fun x S1 => (b ρ S1).bind fun y S2 => match getL S2 x, getL S2 y with | some xs, some ys => .ok ⟨zipI xs ys, fun S => sameAt S2 x S && sameAt S2 y S⟩ S2 | _, _ => .no := rfl
@[simp] theorem x_tgName {k : Nat} {v : Va} : tgName k (.one v) ρ S = .ok (ρ.set k (some v)) S := rfl
@[simp] theorem x_tgSub {v : Va} : tgSub a b (.one v) ρ S = (a ρ S).bind fun x S1 => (b ρ S1).bind fun y S2 => (setL x y v S2).bind fun _ S3 => .ok ρ S3 := rfl
@[simp] theorem x_tgTup {n : Nat} {ts : List IG} {vs : List Va} : tgTupN n ts (.tup vs) ρ S = if vs.length = n then runTgs ts vs ρ S else .no := rfl
@[simp] theorem x_tgTup1 {n : Nat} {ts : List IG} {v : Va} : tgTupN n ts (.one v) ρ S = match getT S v with | some vs => if vs.length = n then runTgs ts vs ρ S else .no | none => .no := rfl
@[simp] theorem x_run0 : runTgs [] [] ρ S = .ok ρ S := rfl
@[simp] theorem x_run1 {t : IG} {ts : List IG} {v : Va} {vs : List Va} : runTgs (t :: ts) (v :: vs) ρ S = (t (.one v) ρ S).bind fun ρ1 S1 => runTgs ts vs ρ1 S1 := rfl
@[simp] theorem x_wipe0 : wipeE ρ [] = ρ := rfl
@[simp] theorem x_wipe1 {v : Nat} {vs : List Nat} : wipeE ρ (v :: vs) = (wipeE ρ vs).set v none := rfl
@[simp] theorem x_next : sNext ρ S = .nx ρ S := rfl
@[simp] theorem x_seq : sSeq i j ρ S = (i ρ S).seq j := rfl
@[simp] theorem x_asg {tg : IG} : sAsg e tg ρ S = (e ρ S).toO ρ fun x S1 => (tg (.one x) ρ S1).toO ρ fun ρ' S2 => .nx ρ' S2 := rfl
@[simp] theorem x_par {k l : Nat} : sPar k l A ρ S = (A ρ S).toO ρ fun xs S1 => match xs with | [x, y] => .nx ((ρ.set k (some x)).set l (some y)) S1 | _ => .no := rfl
@[simp] theorem x_par3 {k l m : Nat} : sPar3 k l m A ρ S = (A ρ S).toO ρ fun xs S1 => match xs with | [x, y, z] => .nx (((ρ.set k (some x)).set l (some y)).set m (some z)) S1 | _ => .no := rfl
@[simp] theorem x_expr : sExpr e ρ S = (e ρ S).toO ρ fun _ S1 => .nx ρ S1 := rfl
@[simp] theorem x_ret : sRet e ρ S = (e ρ S).toO ρ fun x S1 => .rt x S1 := rfl
@[simp] theorem x_retN : sRetN ρ S = .rt .non S := rfl
@[simp] theorem x_sif : sIf t i j ρ S = (t ρ S).toO ρ fun k S1 => if k = true then i ρ S1 else j ρ S1 := rfl
@[simp] theorem x_aug {k : Nat} : sAug k e ρ S = match ρ[k]? with | some (some (.int x)) => ((e ρ S).toO ρ fun y S1 => (match y with | .int j => .nx (ρ.set k (some (.int (x + j)))) S1 | _ => .no)) | _ => .no := rfl
@[simp] theorem x_augS : sAugS o a e ρ S = (o ρ S).toO ρ fun x S1 => (a ρ S1).toO ρ fun y S2 => (fIxL x y S2).toO ρ fun z S3 => (e ρ S3).toO ρ fun w S4 => match z, w with | .int a, .int b => (setL x y (.int (a + b)) S4).toO ρ fun _ S5 => .nx ρ S5 | _, _ => .no := rfl
@[simp] theorem x_for {ii : II} {tg : IG} : sFor ii tg i ρ S = (ii ρ S).toO ρ fun I S1 => forL I.chk tg i I.items ρ S1 := rfl
@[simp] theorem x_val_nx : (O.nx ρ S).val = .ok .non S := rfl
@[simp] theorem x_val_rt {v : Va} : (O.rt v S).val = .ok v S := rfl
@[simp] theorem x_call {F : Fn} : iCall F A ρ S = (A ρ S).bind F := rfl
@[simp] theorem x_raise : sRaise f ρ S = .ex f ρ S := rfl
@[simp] theorem x_val_ex : (O.ex f ρ S).val = .ex f S := rfl
@[simp] theorem x_isi {x : Va} {s : String} : fIsi [x, .ty s] S = match tyB S x with | some t => (match kitB t s with | some b => .ok (.bl b) S | none => .no) | none => .no := rfl
theorem mk1 {n : Nat} {x : Va} {b : IS} : mkFn 1 n b [x] S = (b (some x :: List.replicate (n - 1) none) S).val := rfl
theorem mk2 {n : Nat} {x y : Va} {b : IS} : mkFn 2 n b [x, y] S = (b (some x :: some y :: List.replicate (n - 2) none) S).val := rfl
theorem mk3 {n : Nat} {x y z : Va} {b : IS} : mkFn 3 n b [x, y, z] S = (b (some x :: some y :: some z :: List.replicate (n - 3) none) S).val := rfl
theorem mk4 {n : Nat} {x y z w : Va} {b : IS} : mkFn 4 n b [x, y, z, w] S = (b (some x :: some y :: some z :: some w :: List.replicate (n - 4) none) S).val := rfl
theorem mk5 {n : Nat} {x y z w v : Va} {b : IS} : mkFn 5 n b [x, y, z, w, v] S = (b (some x :: some y :: some z :: some w :: some v :: List.replicate (n - 5) none) S).val := rfl
end
/-! ### plain stores -/
theorem get_app {S T : Sto} {n : Nat} {o : Ob} (h : S[n]? = some o) : (S ++ T)[n]? = some o := by
  rw [List.getElem?_append_left (List.getElem?_eq_some_iff.mp h).1]; exact h
theorem get_n0 {S T : Sto} {o : Ob} : (S ++ o :: T)[S.length]? = some o := by simp
theorem get_n1 {S T : Sto} {o a : Ob} : (S ++ a :: o :: T)[S.length + 1]? = some o := by
  rw [List.getElem?_append_right (by omega), show S.length + 1 - S.length = 1 by omega]; rfl
theorem get_n2 {S T : Sto} {o a b : Ob} : (S ++ a :: b :: o :: T)[S.length + 2]? = some o := by
  rw [List.getElem?_append_right (by omega), show S.length + 2 - S.length = 2 by omega]; rfl
theorem get_n3 {S T : Sto} {o a b c : Ob} : (S ++ a :: b :: c :: o :: T)[S.length + 3]? = some o := by
  rw [List.getElem?_append_right (by omega), show S.length + 3 - S.length = 3 by omega]; rfl
theorem set_n0 {S T : Sto} {o o' : Ob} : (S ++ o :: T).set S.length o' = S ++ o' :: T := by
  rw [List.set_append_right _ _ (by omega), Nat.sub_self]; rfl
theorem set_n1 {S T : Sto} {o o' a : Ob} : (S ++ a :: o :: T).set (S.length + 1) o' = S ++ a :: o' :: T := by
  rw [List.set_append_right _ _ (by omega), show S.length + 1 - S.length = 1 by omega]; rfl
theorem set_n2 {S T : Sto} {o o' a b : Ob} : (S ++ a :: b :: o :: T).set (S.length + 2) o' = S ++ a :: b :: o' :: T := by
  rw [List.set_append_right _ _ (by omega), show S.length + 2 - S.length = 2 by omega]; rfl
theorem set_n3 {S T : Sto} {o o' a b c : Ob} : (S ++ a :: b :: c :: o :: T).set (S.length + 3) o' = S ++ a :: b :: c :: o' :: T := by
  rw [List.set_append_right _ _ (by omega), show S.length + 3 - S.length = 3 by omega]; rfl
/-! ### types -/
theorem kit_ii : kitB "int" "int" = some true := by decide +kernel
theorem kit_ib : kitB "int" "bool" = some false := by decide +kernel
theorem kit_ll : kitB "list" "list" = some true := by decide +kernel
theorem kit_tt : kitB "tuple" "tuple" = some true := by decide +kernel
/-! ### loops -/
def gO (G : O → Prop) (Inv : Env → Sto → Prop) : O → Prop
  | .nx ρ S => Inv ρ S
  | o => G o
theorem for_rule {chk : Sto → Bool} {tg : IG} {body : IS} {G : O → Prop} (Inv : Nat → Env → Sto → Prop) : ∀ (its : List It1) (k : Nat) (ρ : Env) (S : Sto), Inv k ρ S →
    (∀ j it ρ S, its[j]? = some it → Inv (k + j) ρ S → chk S = true ∧ ∃ ρ1 S1, tg it ρ S = .ok ρ1 S1 ∧ gO G (Inv (k + j + 1)) (body ρ1 S1)) →
    (∀ ρ S, Inv (k + its.length) ρ S → chk S = true ∧ G (.nx ρ S)) → G (forL chk tg body its ρ S)
  | [], k, ρ, S, h, _, he => by
    obtain ⟨h1, h2⟩ := he ρ S h
    simp only [forL, h1, if_true]; exact h2
  | it :: r, k, ρ, S, h, hs, he => by
    obtain ⟨h1, ρ1, S1, h2, h3⟩ := hs 0 it ρ S rfl h
    simp only [forL, h1, if_true, h2, R.toO_ok]
    cases hb : body ρ1 S1 with
    | nx ρ2 S2 =>
      rw [hb] at h3
      rw [O.seq_nx]
      refine for_rule Inv r (k + 1) ρ2 S2 h3 (fun j it' ρ' S' e i => ?_) fun ρ' S' i => ?_
      · have := hs (j + 1) it' ρ' S' (by simpa using e) (by rw [show k + (j + 1) = k + 1 + j by omega]; exact i)
        rw [show k + (j + 1) + 1 = k + 1 + j + 1 by omega] at this
        exact this
      · exact he ρ' S' (by rw [List.length_cons, show k + (r.length + 1) = k + 1 + r.length by omega]; exact i)
    | rt v S2 => rw [hb] at h3; exact h3
    | ex c ρ2 S2 => rw [hb] at h3; exact h3
    | no => rw [hb] at h3; exact h3
/-- a for that runs through -/
theorem for_nx {chk : Sto → Bool} {tg : IG} {body : IS} (Inv : Nat → Env → Sto → Prop) (its : List It1) (ρ : Env) (S : Sto) (h0 : Inv 0 ρ S)
    (hs : ∀ j it ρ S, its[j]? = some it → Inv j ρ S → chk S = true ∧ ∃ ρ1 S1, tg it ρ S = .ok ρ1 S1 ∧ ∃ ρ2 S2, body ρ1 S1 = .nx ρ2 S2 ∧ Inv (j + 1) ρ2 S2)
    (he : ∀ ρ S, Inv its.length ρ S → chk S = true) : ∃ ρ' S', forL chk tg body its ρ S = .nx ρ' S' ∧ Inv its.length ρ' S' := by
  refine for_rule (G := fun o => ∃ ρ' S', o = .nx ρ' S' ∧ Inv its.length ρ' S') Inv its 0 ρ S h0 (fun j it ρ S e i => ?_) fun ρ S i => ?_
  · rw [Nat.zero_add] at i ⊢
    obtain ⟨h1, ρ1, S1, h2, ρ2, S2, h3, h4⟩ := hs j it ρ S e i
    exact ⟨h1, ρ1, S1, h2, by rw [h3]; exact h4⟩
  · rw [Nat.zero_add] at i
    exact ⟨he ρ S i, ρ, S, rfl, i⟩
theorem whF_mono {c : IT} {b : IS} : ∀ {n m : Nat} {ρ : Env} {S : Sto}, n ≤ m → whF c b n ρ S ≠ .no → whF c b m ρ S = whF c b n ρ S
  | 0, _, _, _, _, h => absurd rfl h
  | n + 1, 0, _, _, h, _ => by omega
  | n + 1, m + 1, ρ, S, hm, h => by
    unfold whF at h ⊢
    cases hc : c ρ S with
    | ok k S1 =>
      rw [hc] at h
      simp only [R.toO_ok] at h ⊢
      split
      · rename_i hk
        rw [if_pos hk] at h
        cases hb : b ρ S1 with
        | nx ρ2 S2 => rw [hb] at h; simp only [O.seq_nx] at h ⊢; exact whF_mono (by omega) h
        | rt v S2 => rfl
        | ex c' ρ2 S2 => rfl
        | no => rfl
      · rfl
    | ex c' S1 => rfl
    | no => rfl
theorem sWhile_eq {c : IT} {b : IS} {ρ : Env} {S : Sto} {n : Nat} (h : whF c b n ρ S ≠ .no) : sWhile c b ρ S = whF c b n ρ S := by
  have hx : ∃ n, whF c b n ρ S ≠ .no := ⟨n, h⟩
  unfold sWhile
  rw [dif_pos hx]
  have h2 := hx.choose_spec
  rcases Nat.le_total n hx.choose with h3 | h3
  · exact whF_mono h3 h
  · exact (whF_mono h3 h2).symm
theorem while_rule {c : IT} {body : IS} {G : O → Prop} (hno : ¬ G .no) (W : Nat → Env → Sto → Prop) (hs : ∀ m ρ S, W m ρ S → ∃ b S1, c ρ S = .ok b S1 ∧ (b = false → G (.nx ρ S1)) ∧ (b = true → gO G (fun ρ2 S2 => ∃ m', m' < m ∧ W m' ρ2 S2) (body ρ S1)))
    {m : Nat} {ρ : Env} {S : Sto} (h : W m ρ S) : G (sWhile c body ρ S) := by
  have key : ∀ (m : Nat) (ρ : Env) (S : Sto), W m ρ S → ∃ n, G (whF c body n ρ S) := by
    intro m
    induction m using Nat.strongRecOn with
    | _ m ih =>
      intro ρ S h
      obtain ⟨b, S1, h1, h2, h3⟩ := hs m ρ S h
      cases b with
      | false => exact ⟨1, by simp only [whF, h1, R.toO_ok]; exact h2 rfl⟩
      | true =>
        have h4 := h3 rfl
        cases hb : body ρ S1 with
        | nx ρ2 S2 =>
          rw [hb] at h4
          obtain ⟨m', hm, w⟩ := h4
          obtain ⟨n, hn⟩ := ih m' hm ρ2 S2 w
          exact ⟨n + 1, by simp only [whF, h1, R.toO_ok, if_true, hb, O.seq_nx]; exact hn⟩
        | rt v S2 => rw [hb] at h4; exact ⟨1, by simp only [whF, h1, R.toO_ok, if_true, hb, O.seq_rt]; exact h4⟩
        | ex e ρ2 S2 => rw [hb] at h4; exact ⟨1, by simp only [whF, h1, R.toO_ok, if_true, hb, O.seq_ex]; exact h4⟩
        | no => rw [hb] at h4; exact absurd h4 hno
  obtain ⟨n, hn⟩ := key m ρ S h
  rw [sWhile_eq (n := n) (fun z => by rw [z] at hn; exact hno hn)]
  exact hn
/-! ### comprehensions -/
/-- each item's value; the store grows by garbage -/
theorem lc_grow {chk : Sto → Bool} {tg : IG} {tt : IT} {ie : IE} {ρ : Env} {S : Sto} (p : It1 → Bool) (f : It1 → Va) (hc : ∀ T, chk (S ++ T) = true) : ∀ (its : List It1) (T : Sto),
    (∀ it ∈ its, ∀ T, ∃ ρ1 T1, tg it ρ (S ++ T) = .ok ρ1 (S ++ T) ∧ tt ρ1 (S ++ T) = .ok (p it) (S ++ T1) ∧ (p it = true → ∃ T2, ie ρ1 (S ++ T1) = .ok (f it) (S ++ T2))) →
    ∃ T', lcL chk tg tt ie ρ its (S ++ T) = .ok ((its.filter p).map f) (S ++ T')
  | [], T, _ => ⟨T, by simp [lcL, hc]⟩
  | it :: r, T, h => by
    obtain ⟨ρ1, T1, h1, h2, h3⟩ := h it List.mem_cons_self T
    cases hp : p it with
    | false =>
      obtain ⟨T', ih⟩ := lc_grow p f hc r T1 fun it' h' => h it' (List.mem_cons_of_mem _ h')
      exact ⟨T', by simp [lcL, hc, h1, h2, hp, ih]⟩
    | true =>
      obtain ⟨T2, h4⟩ := h3 hp
      obtain ⟨T', ih⟩ := lc_grow p f hc r T2 fun it' h' => h it' (List.mem_cons_of_mem _ h')
      exact ⟨T', by simp [lcL, hc, h1, h2, hp, h4, ih]⟩
/-- .. where the store stays as it is -/
theorem lc_pure {chk : Sto → Bool} {tg : IG} {tt : IT} {ie : IE} {ρ : Env} {S : Sto} (p : It1 → Bool) (f : It1 → Va) (hc : chk S = true) : ∀ (its : List It1),
    (∀ it ∈ its, ∃ ρ1, tg it ρ S = .ok ρ1 S ∧ tt ρ1 S = .ok (p it) S ∧ (p it = true → ie ρ1 S = .ok (f it) S)) → lcL chk tg tt ie ρ its S = .ok ((its.filter p).map f) S
  | [], _ => by simp [lcL, hc]
  | it :: r, h => by
    obtain ⟨ρ1, h1, h2, h3⟩ := h it List.mem_cons_self
    have ih := lc_pure p f hc r fun it' h' => h it' (List.mem_cons_of_mem _ h')
    cases hp : p it with
    | false => simp [lcL, hc, h1, h2, hp, ih]
    | true => simp [lcL, hc, h1, h2, hp, h3 hp, ih]
theorem lc_run {ii : II} {tg : IG} {tt : IT} {ie : IE} {vs : List Nat} {ρ : Env} {S : Sto} {its : List It1} {chk : Sto → Bool} (hi : ii ρ S = .ok ⟨its, chk⟩ S) (hl : its.length ≤ 100000) (hc : ∀ T, chk (S ++ T) = true) (p : It1 → Bool) (f : It1 → Va)
    (hs : ∀ it ∈ its, ∀ T, ∃ ρ1 T1, tg it (wipeE ρ vs) (S ++ T) = .ok ρ1 (S ++ T) ∧ tt ρ1 (S ++ T) = .ok (p it) (S ++ T1) ∧ (p it = true → ∃ T2, ie ρ1 (S ++ T1) = .ok (f it) (S ++ T2))) :
    ∃ T' n, iLc ii tg tt ie vs ρ S = .ok (.ref n) (S ++ T') ∧ ∀ T, (S ++ (T' ++ T))[n]? = some (.lst ((its.filter p).map f)) := by
  obtain ⟨T', h⟩ := lc_grow p f hc its [] hs
  rw [List.append_nil] at h
  refine ⟨T' ++ [.lst ((its.filter p).map f)], (S ++ T').length, ?_, fun T => ?_⟩
  · simp only [iLc, hi, R.bind_ok, hl, if_true, h, R.bindN_ok, List.append_assoc]
  · rw [List.append_assoc, ← List.append_assoc S T']
    exact get_n0
theorem lc_run0 {ii : II} {tg : IG} {tt : IT} {ie : IE} {vs : List Nat} {ρ : Env} {S : Sto} {its : List It1} {chk : Sto → Bool} (hi : ii ρ S = .ok ⟨its, chk⟩ S) (hl : its.length ≤ 100000) (hc : chk S = true) (p : It1 → Bool) (f : It1 → Va)
    (hs : ∀ it ∈ its, ∃ ρ1, tg it (wipeE ρ vs) S = .ok ρ1 S ∧ tt ρ1 S = .ok (p it) S ∧ (p it = true → ie ρ1 S = .ok (f it) S)) :
    iLc ii tg tt ie vs ρ S = .ok (.ref S.length) (S ++ [.lst ((its.filter p).map f)]) := by
  have h := lc_pure p f hc its hs
  simp only [iLc, hi, R.bind_ok, hl, if_true, h, R.bindN_ok]
theorem Paired.of_get {α β : Type} {F : α → β → Prop} : ∀ {xs : List α} {ys : List β}, xs.length = ys.length → (∀ (k : Nat) x y, xs[k]? = some x → ys[k]? = some y → F x y) → Paired F xs ys
  | [], [], _, _ => .nil
  | [], y :: ys, h, _ => by simp at h
  | x :: xs, [], h, _ => by simp at h
  | x :: xs, y :: ys, h, f => .cons (f 0 x y rfl rfl) (Paired.of_get (by simpa using h) fun k a b h1 h2 => f (k + 1) a b (by simpa using h1) (by simpa using h2))
/-- one turn of a comprehension: none where the test says no -/
def LcQ (tg : IG) (tt : IT) (ie : IE) (ρ : Env) (S : Sto) (it : It1) (o : Option Va) : Prop :=
  ∀ T, ∃ ρ1 T1, tg it ρ (S ++ T) = .ok ρ1 (S ++ T) ∧ tt ρ1 (S ++ T) = .ok o.isSome (S ++ T1) ∧ ∀ y, o = some y → ∃ T2, ie ρ1 (S ++ T1) = .ok y (S ++ T2)
theorem lcr_grow {chk : Sto → Bool} {tg : IG} {tt : IT} {ie : IE} {ρ : Env} {S : Sto} (hc : ∀ T, chk (S ++ T) = true) : ∀ {its : List It1} {os : List (Option Va)} (T : Sto), Paired (LcQ tg tt ie ρ S) its os → ∃ T', lcL chk tg tt ie ρ its (S ++ T) = .ok (os.filterMap id) (S ++ T')
  | _, _, T, .nil => ⟨T, by simp [lcL, hc]⟩
  | _, _, T, .cons (a := it) (b := o) q r => by
    obtain ⟨ρ1, T1, h1, h2, h3⟩ := q T
    cases o with
    | none =>
      obtain ⟨T', ih⟩ := lcr_grow hc T1 r
      exact ⟨T', by simp [lcL, hc, h1, h2, ih]⟩
    | some y =>
      obtain ⟨T2, h4⟩ := h3 y rfl
      obtain ⟨T', ih⟩ := lcr_grow hc T2 r
      exact ⟨T', by simp [lcL, hc, h1, h2, h4, ih]⟩
theorem lcr_run {ii : II} {tg : IG} {tt : IT} {ie : IE} {vs : List Nat} {ρ : Env} {S : Sto} {its : List It1} {os : List (Option Va)} {chk : Sto → Bool} (hi : ii ρ S = .ok ⟨its, chk⟩ S) (hl : its.length ≤ 100000) (hc : ∀ T, chk (S ++ T) = true) (hs : Paired (LcQ tg tt ie (wipeE ρ vs) S) its os) :
    ∃ T' n, iLc ii tg tt ie vs ρ S = .ok (.ref n) (S ++ T') ∧ S.length ≤ n ∧ ∀ T, (S ++ (T' ++ T))[n]? = some (.lst (os.filterMap id)) := by
  obtain ⟨T', h⟩ := lcr_grow hc [] hs
  rw [List.append_nil] at h
  refine ⟨T' ++ [.lst (os.filterMap id)], (S ++ T').length, ?_, by simp, fun T => ?_⟩
  · simp only [iLc, hi, R.bind_ok, hl, if_true, h, R.bindN_ok, List.append_assoc]
  · rw [List.append_assoc, ← List.append_assoc S T']
    exact get_n0
/-- .. nothing laid on the way -/
def LcP (tg : IG) (tt : IT) (ie : IE) (ρ : Env) (S : Sto) (it : It1) (o : Option Va) : Prop := ∃ ρ1, tg it ρ S = .ok ρ1 S ∧ tt ρ1 S = .ok o.isSome S ∧ ∀ y, o = some y → ie ρ1 S = .ok y S
theorem lcr_pure {chk : Sto → Bool} {tg : IG} {tt : IT} {ie : IE} {ρ : Env} {S : Sto} (hc : chk S = true) : ∀ {its : List It1} {os : List (Option Va)}, Paired (LcP tg tt ie ρ S) its os → lcL chk tg tt ie ρ its S = .ok (os.filterMap id) S
  | _, _, .nil => by simp [lcL, hc]
  | _, _, .cons (a := it) (b := o) q r => by
    obtain ⟨ρ1, h1, h2, h3⟩ := q
    have ih := lcr_pure hc r
    cases o with
    | none => simp [lcL, hc, h1, h2, ih]
    | some y => simp [lcL, hc, h1, h2, h3 y rfl, ih]
theorem lcr_run0 {ii : II} {tg : IG} {tt : IT} {ie : IE} {vs : List Nat} {ρ : Env} {S : Sto} {its : List It1} {os : List (Option Va)} {chk : Sto → Bool} (hi : ii ρ S = .ok ⟨its, chk⟩ S) (hl : its.length ≤ 100000) (hc : chk S = true) (hs : Paired (LcP tg tt ie (wipeE ρ vs) S) its os) :
    iLc ii tg tt ie vs ρ S = .ok (.ref S.length) (S ++ [.lst (os.filterMap id)]) := by
  have h := lcr_pure hc hs
  simp only [iLc, hi, R.bind_ok, hl, if_true, h, R.bindN_ok]
theorem fmap_some {α β : Type} (f : α → β) (l : List α) : (l.map fun x => some (f x)).filterMap id = l.map f := by
  induction l with
  | nil => rfl
  | cons x l ih => simp [ih]
theorem map_one_get {xs : List Va} {i : Nat} {it : It1} (h : (xs.map It1.one)[i]? = some it) : ∃ x, xs[i]? = some x ∧ it = .one x := by
  rw [List.getElem?_map] at h
  cases e : xs[i]? with
  | none => rw [e] at h; cases h
  | some x => rw [e] at h; exact ⟨x, rfl, (Option.some.inj h).symm⟩
theorem map_get {α β : Type} {f : α → β} {xs : List α} {i : Nat} {y : β} (h : (xs.map f)[i]? = some y) : ∃ x, xs[i]? = some x ∧ y = f x := by
  rw [List.getElem?_map] at h
  cases e : xs[i]? with
  | none => rw [e] at h; cases h
  | some x => rw [e] at h; exact ⟨x, rfl, (Option.some.inj h).symm⟩
theorem zip_get {α β : Type} : ∀ {xs : List α} {ys : List β} {i : Nat} {z : α × β}, (xs.zip ys)[i]? = some z → xs[i]? = some z.1 ∧ ys[i]? = some z.2
  | [], _, _, _, h => by simp at h
  | _ :: _, [], _, _, h => by simp at h
  | x :: xs, y :: ys, 0, z, h => by simp at h; subst h; exact ⟨rfl, rfl⟩
  | x :: xs, y :: ys, i + 1, z, h => by simpa using zip_get (xs := xs) (ys := ys) (i := i) (z := z) (by simpa using h)
theorem enuI_length : ∀ (k : Nat) (xs : List Va), (enuI k xs).length = xs.length
  | _, [] => rfl
  | k, x :: xs => by rw [enuI, List.length_cons, List.length_cons, enuI_length]
theorem enuI_get : ∀ (k : Nat) (xs : List Va) (i : Nat) (it : It1), (enuI k xs)[i]? = some it → ∃ x, xs[i]? = some x ∧ it = .tup [.int ((k + i : Nat) : Int), x]
  | _, [], i, e, h => by simp [enuI] at h
  | k, d :: ds, 0, e, h => by simp [enuI] at h; exact ⟨d, rfl, by rw [← h]; simp⟩
  | k, d :: ds, i + 1, e, h => by
    rw [enuI, List.getElem?_cons_succ] at h
    obtain ⟨d', h1, h2⟩ := enuI_get (k + 1) ds i e h
    exact ⟨d', by rw [List.getElem?_cons_succ]; exact h1, by rw [h2, show k + 1 + i = k + (i + 1) by omega]⟩
theorem zipI_length : ∀ (as bs : List Va), (zipI as bs).length = min as.length bs.length
  | [], bs => by simp [zipI]
  | a :: as, [] => by simp [zipI]
  | a :: as, b :: bs => by rw [zipI, List.length_cons, List.length_cons, List.length_cons, zipI_length]; omega
theorem zipI_get : ∀ (as bs : List Va) (i : Nat) (e : It1), (zipI as bs)[i]? = some e → ∃ a b, as[i]? = some a ∧ bs[i]? = some b ∧ e = .tup [a, b]
  | [], bs, i, e, h => by simp [zipI] at h
  | a :: as, [], i, e, h => by simp [zipI] at h
  | a :: as, b :: bs, 0, e, h => by simp [zipI] at h; exact ⟨a, b, rfl, rfl, h.symm⟩
  | a :: as, b :: bs, i + 1, e, h => by
    rw [zipI, List.getElem?_cons_succ] at h
    obtain ⟨x, y, h1, h2, h3⟩ := zipI_get as bs i e h
    exact ⟨x, y, by rw [List.getElem?_cons_succ]; exact h1, by rw [List.getElem?_cons_succ]; exact h2, h3⟩
theorem sameAt_self {S : Sto} {v : Va} : sameAt S v S = true := by cases v <;> simp [sameAt]
/-! ### data -/
def vN (n : Nat) : Va := .int (n : Int)
def LN (xs : List Nat) : Ob := .lst (xs.map vN)
theorem allO_map {α β : Type} {f : α → Option β} {g : α → β} : ∀ {xs : List α}, (∀ x ∈ xs, f x = some (g x)) → allO (xs.map f) = some (xs.map g)
  | [], _ => rfl
  | x :: xs, h => by
    rw [List.map_cons, h x List.mem_cons_self]
    unfold allO
    rw [allO_map fun y hy => h y (List.mem_cons_of_mem _ hy)]
    rfl
theorem asIs_N (xs : List Nat) : asIs (xs.map vN) = some (xs.map fun (x : Nat) => (x : Int)) := by
  unfold asIs
  rw [List.map_map]
  exact allO_map fun x _ => rfl
theorem asIs_I (xs : List Int) : asIs (xs.map .int) = some xs := by
  unfold asIs
  rw [List.map_map]
  have := allO_map (f := asI ∘ Va.int) (g := id) (xs := xs) fun x _ => rfl
  rw [this, List.map_id]
theorem asBs_B {α : Type} (f : α → Bool) (xs : List α) : asBs (xs.map fun x => Va.bl (f x)) = some (xs.map f) := by
  unfold asBs
  rw [List.map_map]
  exact allO_map fun x _ => rfl
theorem toP_N {k : Nat} {S : Sto} (xs : List Nat) : allO ((xs.map vN).map (toP k S)) = some (xs.map fun (x : Nat) => PyData.int (x : Int)) := by
  rw [List.map_map]
  exact allO_map fun x _ => by cases k <;> simp [vN, toP]
theorem toP_I {k : Nat} {S : Sto} (xs : List Int) : allO ((xs.map Va.int).map (toP k S)) = some (xs.map PyData.int) := by
  rw [List.map_map]
  exact allO_map fun x _ => by cases k <;> simp [toP]
theorem eqv_I : ∀ xs ys : List Int, PyData.eqvAll (xs.map PyData.int) (ys.map PyData.int) = decide (xs = ys)
  | [], [] => by simp [PyData.eqvAll]
  | [], y :: ys => by simp [PyData.eqvAll]
  | x :: xs, [] => by simp [PyData.eqvAll]
  | x :: xs, y :: ys => by
    rw [List.map_cons, List.map_cons, PyData.eqvAll, eqv_I xs ys, PyData.eqv]
    by_cases h : x = y <;> by_cases h2 : xs = ys <;> simp [h, h2]
theorem natInt_inj {xs ys : List Nat} : (xs.map fun (x : Nat) => (x : Int)) = (ys.map fun (x : Nat) => (x : Int)) ↔ xs = ys := by
  constructor
  · intro h
    exact (List.map_inj_right fun a b => by omega).mp h
  · rintro rfl; rfl
theorem eqv_N (xs ys : List Nat) : PyData.eqvAll (xs.map fun (x : Nat) => PyData.int (x : Int)) (ys.map fun (x : Nat) => PyData.int (x : Int)) = decide (xs = ys) := by
  have e : ∀ zs : List Nat, (zs.map fun (x : Nat) => PyData.int (x : Int)) = (zs.map fun (x : Nat) => (x : Int)).map PyData.int := fun zs => by rw [List.map_map]; rfl
  rw [e, e, eqv_I]
  by_cases h : xs = ys
  · subst h; simp
  · rw [decide_eq_false h, decide_eq_false (fun z => h (natInt_inj.mp z))]
theorem getL_ref {S : Sto} {p : Nat} {xs : List Va} (h : S[p]? = some (.lst xs)) : getL S (.ref p) = some xs := by simp [getL, h]
theorem getT_ref {S : Sto} {p : Nat} {xs : List Va} (h : S[p]? = some (.tup xs)) : getT S (.ref p) = some xs := by simp [getT, h]
theorem getL_tup {S : Sto} {p : Nat} {xs : List Va} (h : S[p]? = some (.tup xs)) : getL S (.ref p) = none := by simp [getL, h]
theorem getQ_lst {S : Sto} {p : Nat} {xs : List Va} (h : S[p]? = some (.lst xs)) : getQ S (.ref p) = some xs := by simp [getQ, getL, h]
theorem getQ_tup {S : Sto} {p : Nat} {xs : List Va} (h : S[p]? = some (.tup xs)) : getQ S (.ref p) = some xs := by simp [getQ, getL, getT, h]
theorem ixN_lt {n k : Nat} (h : k < n) : ixN n (k : Int) = some k := by
  unfold ixN
  rw [if_pos (by omega), if_pos (by omega)]
  simp
theorem atI_nat' {α : Type} {xs : List α} {k : Nat} {v : α} (h : xs[k]? = some v) : atI xs (k : Int) = some v := by
  unfold atI
  rw [ixN_lt (List.getElem?_eq_some_iff.mp h).1]
  exact h
theorem fIx_lst {S : Sto} {p k : Nat} {xs : List Va} {v : Va} (h : S[p]? = some (.lst xs)) (hk : xs[k]? = some v) : fIx (.ref p) (.int (k : Int)) S = .ok v S := by
  simp [fIx, getQ_lst h, atI_nat' hk]
theorem fIx_tup {S : Sto} {p k : Nat} {xs : List Va} {v : Va} (h : S[p]? = some (.tup xs)) (hk : xs[k]? = some v) : fIx (.ref p) (.int (k : Int)) S = .ok v S := by
  simp [fIx, getQ_tup h, atI_nat' hk]
theorem sameAt_app {S T : Sto} {p : Nat} {o : Ob} (h : S[p]? = some o) : sameAt S (.ref p) (S ++ T) = true := by
  simp only [sameAt, decide_eq_true_eq, get_app h, h]
theorem sameAt_app2 {S T T' : Sto} {p : Nat} {o : Ob} (h : S[p]? = some o) : sameAt (S ++ T) (.ref p) (S ++ T') = true := by
  simp only [sameAt, decide_eq_true_eq, get_app h]
/-! tasks -/
def TpN (S : Sto) (v : Va) (t : Nat × Nat) : Prop := ∃ q, v = .ref q ∧ S[q]? = some (.tup [vN t.1, vN t.2])
def Tks (S : Sto) (vs : List Va) (ts : List (Nat × Nat)) : Prop := Paired (TpN S) vs ts
theorem TpN.app {S T : Sto} {v : Va} {t : Nat × Nat} (h : TpN S v t) : TpN (S ++ T) v t := let ⟨q, h1, h2⟩ := h; ⟨q, h1, get_app h2⟩
theorem Tks.app {S T : Sto} {vs : List Va} {ts : List (Nat × Nat)} (h : Tks S vs ts) : Tks (S ++ T) vs ts := Paired.imp (fun _ _ q => TpN.app q) h
end IL

end
section
set_option Elab.async false
set_option linter.all false
set_option maxRecDepth 100000
set_option maxHeartbeats 2000000
namespace IL
open PySem L2
/-! ### targets -/
def ItR (g : Gm) (ι : List Addr) (H : Hp) : It1 → V → Prop
  | .one x, v => VR g ι x v
  | .tup xs, v => ∃ T vs, v = .ref T ∧ H T = some (.tup vs) ∧ VRs g ι xs vs
def SdG (g : Gm) (W : WH) (gt : TG) (tg : IG) : Prop := ∀ ι S ρ σ H it v (Q : St → Hp → Prop), Sim g ι S H → ER g ι ρ σ → ItR g ι H it v → P g ι H (W · σ) (fun ρ' ι' H' => ∀ σ', ER g ι' ρ' σ' → Q σ' H') (tg it ρ S) → gt v σ H Q
def SdGs (g : Gm) (W : WH) (gt : TGs) (tgs : List IG) : Prop := ∀ ι S ρ σ H xs vs (Q : St → Hp → Prop), Sim g ι S H → ER g ι ρ σ → VRs g ι xs vs → P g ι H (fun c H' => ∀ σ', W c σ' H') (fun ρ' ι' H' => ∀ σ', ER g ι' ρ' σ' → Q σ' H') (runTgs tgs xs ρ S) → gt vs σ H Q
section
variable {g : Gm} {W : WH} {ι : List Addr} {S : Sto} {H : Hp} {ta tb te : TE} {ia ib ie : IE}
theorem sg_name {j : Nat} : SdG g W (gName j) (tgName j) := fun ι S ρ σ H it v Q s e r h => by
  cases it with
  | one x => exact h _ _ (Ext.refl _ _) s _ (e.set j r)
  | tup xs => exact h.elim
theorem setL_ok {α : Type} {T : α → List Addr → Hp → Prop} {W' : Str → Hp → Prop} {k : Unit → Sto → R α} {o i x : Va} {vo vi v : V} {Q : Hp → Prop} (s : Sim g ι S H) (ho : VR g ι o vo) (hi : VR g ι i vi) (hv : VR g ι x v) (h : P g ι H W' T ((setL o i x S).bind k))
    (f : ∀ S' H', Ext ι H ι H' → Sim g ι S' H' → P g ι H' W' T (k () S') → Q H') : rSetL vo vi v H Q := by
  unfold setL at h
  split at h
  · rename_i n z
    split at h
    · rename_i xs ex
      split at h
      · rename_i j ej
        obtain ⟨a, rfl, ea, vs, hp, rp⟩ := s.ref ex ho
        cases hi
        refine ⟨a, vs, z, j, rfl, rfl, hp, by rw [← Paired.len rp]; exact ej, ?_⟩
        exact f _ _ (Ext.put ea (notFrz_lst hp)) (s.putL ea hp (Paired.set hv j rp)) (P.le (Ext.put ea (notFrz_lst hp)) h)
      · exact h.elim
    · exact h.elim
  · exact h.elim
theorem sg_sub {to ti : TE} {io ii : IE} (ho : SdE g W to io) (hi : SdE g W ti ii) : SdG g W (gSub to ti rSetL) (tgSub io ii) := fun ι S ρ σ H it v Q s e r h => by
  cases it with
  | one x =>
    refine ho ι ρ S σ H _ s e (h.then fun y ι1 S1 H1 l s1 h1 u vy => hi ι1 ρ S1 σ H1 _ s1 (e.mono l.le) (h1.then fun z ι2 S2 H2 l2 s2 h2 w vz => ?_))
    refine setL_ok s2 (vy.mono l2.le) vz ((VR.mono l.le r).mono l2.le) h2 fun S3 H3 l3 s3 h3 => ?_
    exact h3 _ _ (Ext.refl _ _) s3 _ (e.mono (l.trans l2).le)
  | tup xs => exact h.elim
theorem sgs_nil : SdGs g W gNil [] := fun ι S ρ σ H xs vs Q s e r h => by
  cases r with
  | nil => exact ⟨rfl, h _ _ (Ext.refl _ _) s _ e⟩
  | cons a b => exact h.elim
theorem P.wmono {α : Type} {W W' : Str → Hp → Prop} {T : α → List Addr → Hp → Prop} {r : R α} (h : P g ι H W T r) (f : ∀ c H, W c H → W' c H) : P g ι H W' T r := by
  cases r with
  | ok x S' => exact h
  | ex c S' => exact fun ι' H' l s => f _ _ (h ι' H' l s)
  | no => exact h
theorem sgs_cons {gt : TG} {gs : TGs} {tg : IG} {tgs : List IG} (h1 : SdG g W gt tg) (h2 : SdGs g W gs tgs) : SdGs g W (gCons gt gs) (tg :: tgs) := fun ι S ρ σ H xs vs Q s e r h => by
  cases r with
  | nil => exact h.elim
  | @cons x v xs vs q t =>
    refine ⟨v, vs, rfl, h1 ι S ρ σ H (.one x) v _ s e q ?_⟩
    exact (h.then fun ρ1 ι1 S1 H1 l s1 h3 σ1 e1 => h2 ι1 S1 ρ1 σ1 H1 xs vs Q s1 e1 (VRs.mono l.le t) h3).wmono fun c H z => z σ
theorem runTgs_ne : ∀ (ts : List IG) (vs : List Va) (ρ : Env) (S : Sto), ts.length ≠ vs.length → (runTgs ts vs ρ S = .no ∨ ∃ c S', runTgs ts vs ρ S = .ex c S')
  | [], [], _, _, h => (h rfl).elim
  | [], v :: vs, _, _, _ => .inl rfl
  | t :: ts, [], _, _, _ => .inl rfl
  | t :: ts, v :: vs, ρ, S, h => by
    show ((t (.one v) ρ S).bind fun ρ1 S1 => runTgs ts vs ρ1 S1) = .no ∨ ∃ c S', ((t (.one v) ρ S).bind fun ρ1 S1 => runTgs ts vs ρ1 S1) = .ex c S'
    cases t (.one v) ρ S with
    | ok ρ1 S1 => exact runTgs_ne ts vs ρ1 S1 (by simpa using h)
    | ex c S1 => exact .inr ⟨c, S1, rfl⟩
    | no => exact .inl rfl
/-- names alone -/
def gNs : List Nat → TGs
  | [] => gNil
  | j :: js => gCons (gName j) (gNs js)
theorem sg_tup {n : Nat} {gs : TGs} {tgs : List IG} (h1 : SdGs g W0 gs tgs) : SdG g W0 (gTup g.K n gs) (tgTupN n tgs) := fun ι S ρ σ H it v Q s e r h => by
  cases it with
  | one x =>
    simp only [tgTupN] at h
    cases ex : getT S x with
    | none => rw [ex] at h; exact h.elim
    | some xs =>
      rw [ex] at h
      dsimp only at h
      split at h
      · rename_i hn
        obtain ⟨a, vs, rfl, ha, rv⟩ := getT_ok s r ex
        exact ⟨a, vs, rfl, SqT.of ha, by rw [← Paired.len rv]; exact hn, h1 ι S ρ σ H xs vs Q s e rv (h.wmono fun c H z => z.elim)⟩
      · exact h.elim
  | tup xs =>
    obtain ⟨T, vs, rfl, hT, rv⟩ := r
    simp only [tgTupN] at h
    split at h
    · rename_i hn
      exact ⟨T, vs, rfl, SqT.of hT, by rw [← Paired.len rv]; exact hn, h1 ι S ρ σ H xs vs Q s e rv (h.wmono fun c H z => z.elim)⟩
    · exact h.elim
/-! ### what is walked -/
/-- the walk J yields the items, as long as chk holds -/
def Wk (g : Gm) (ι : List Addr) (H : Hp) (J : It) (I : Its) : Prop := ∃ G Y, Walk J I.items.length G Y ∧ (∀ ι' S' H', Le ι ι' → Frz H H' → Sim g ι' S' H' → I.chk S' = true → G H') ∧
  ∀ i it ι' S' H1 x H2, I.items[i]? = some it → Le ι ι' → Frz H H1 → Sim g ι' S' H1 → I.chk S' = true → Y i H1 x H2 → Sim g ι' S' H2 ∧ Ext ι' H1 ι' H2 ∧ ItR g ι' H2 it x
def SdI (g : Gm) (W : WH) (wi : TI) (ii : II) : Prop := ∀ ι ρ S σ H (R : It → Hp → Prop), Sim g ι S H → ER g ι ρ σ → P g ι H (W · σ) (fun I ι' H' => ∀ J, Wk g ι' H' J I → R J H') (ii ρ S) → wi σ H R
theorem VR.fn {ι' : List Addr} {x : Va} {v w : V} (l : Le ι ι') (h : VR g ι x v) (h' : VR g ι' x w) : w = v := by
  cases x with
  | ref n =>
    obtain ⟨a, h1, rfl⟩ := h
    obtain ⟨b, h2, rfl⟩ := h'
    rw [l n a h1] at h2; cases h2; rfl
  | scr ns => exact h'.1.trans h.1.symm
  | exc c => exact h.elim
  | _ => exact h'.trans h.symm
theorem VRs.fn {ι' : List Addr} {xs : List Va} {vs ws : List V} (l : Le ι ι') (h : VRs g ι xs vs) (h' : VRs g ι' xs ws) : ws = vs := by
  induction h generalizing ws with
  | nil => cases h'; rfl
  | cons q t ih =>
    cases h' with
    | cons q' t' => rw [VR.fn l q q', ih t']
theorem sameAt_L (s : Sim g ι S H) {x : Va} {xs : List Va} {a : Addr} {vs : List V} (vx : VR g ι x (.ref a)) (e : getL S x = some xs) (r : VRs g ι xs vs) {ι' : List Addr} {S' : Sto} {H' : Hp} (l : Le ι ι') (s' : Sim g ι' S' H') (hc : sameAt S x S' = true) : SqL g.K H' a vs := by
  have e' : getL S' x = some xs := by
    cases x with
    | ref n => rw [← e]; simp only [sameAt, decide_eq_true_eq] at hc; simp only [getL, hc]
    | scr ns => exact e
    | _ => cases e
  obtain ⟨b, ws, h1, h2, h3⟩ := getL_ok s' (vx.mono l) e'
  cases h1
  rw [VRs.fn l r h3] at h2
  exact h2
theorem sameAt_T (s : Sim g ι S H) {x : Va} {xs : List Va} {a : Addr} {vs : List V} (vx : VR g ι x (.ref a)) (e : getT S x = some xs) (r : VRs g ι xs vs) {ι' : List Addr} {S' : Sto} {H' : Hp} (l : Le ι ι') (s' : Sim g ι' S' H') (hc : sameAt S x S' = true) : SqT g.K H' a vs := by
  have e' : getT S' x = some xs := by
    cases x with
    | ref n => rw [← e]; simp only [sameAt, decide_eq_true_eq] at hc; simp only [getT, hc]
    | _ => cases e
  obtain ⟨b, ws, h1, h2, h3⟩ := getT_ok s' (vx.mono l) e'
  cases h1
  rw [VRs.fn l r h3] at h2
  exact SqT.of h2
theorem si_list (ha : SdE g W ta ia) : SdI g W (iList g.K ta) (itList ia) := fun ι ρ S σ H R s e h =>
  ha ι ρ S σ H _ s e (h.then fun x ι1 S1 H1 l s1 h1 v vx => by
    try dsimp only at h1
    split at h1
    · rename_i xs ex
      obtain ⟨a, vs, rfl, hq, r⟩ := getL_ok s1 vx ex
      have wk : Walk (Itl g.K a) (xs.map It1.one).length (fun H => SqL g.K H a vs) (YAt vs) := by
        rw [List.length_map, Paired.len r]; exact walk_list (xs := vs)
      refine ⟨a, rfl, ⟨vs, hq⟩, h1 _ _ (Ext.refl _ _) s1 _ ⟨_, _, wk, fun ι' S' H' l' f' s' hc => sameAt_L s1 vx ex r l' s' hc, fun i it ι' S' H2 y H3 e1 l' f' s' hc hy => ?_⟩⟩
      obtain ⟨z1, z2⟩ := hy
      subst z1
      obtain ⟨y', e2, rfl⟩ := map_one_get e1
      obtain ⟨w, e3, e4⟩ := Paired.get r e2
      rw [e3] at z2; cases z2
      exact ⟨s', Ext.refl _ _, e4.mono l'⟩
    · exact h1.elim)
theorem si_tup (ha : SdE g W ta ia) : SdI g W (L2.iTup g.K ta) (itTup ia) := fun ι ρ S σ H R s e h =>
  ha ι ρ S σ H _ s e (h.then fun x ι1 S1 H1 l s1 h1 v vx => by
    try dsimp only at h1
    split at h1
    · rename_i xs ex
      obtain ⟨a, vs, rfl, hq, r⟩ := getT_ok s1 vx ex
      have wk : Walk (Itt g.K a) (xs.map It1.one).length (fun H => SqT g.K H a vs) (YAt vs) := by
        rw [List.length_map, Paired.len r]; exact walk_tup (xs := vs)
      refine ⟨a, rfl, ⟨vs, SqT.of hq⟩, h1 _ _ (Ext.refl _ _) s1 _ ⟨_, _, wk, fun ι' S' H' l' f' s' hc => sameAt_T s1 vx ex r l' s' hc, fun i it ι' S' H2 y H3 e1 l' f' s' hc hy => ?_⟩⟩
      obtain ⟨z1, z2⟩ := hy
      subst z1
      obtain ⟨y', e2, rfl⟩ := map_one_get e1
      obtain ⟨w, e3, e4⟩ := Paired.get r e2
      rw [e3] at z2; cases z2
      exact ⟨s', Ext.refl _ _, e4.mono l'⟩
    · exact h1.elim)
theorem rng_get {b : Int} {i : Nat} {k : Int} (h : (rng 0 b)[i]? = some k) : k = (i : Int) := by
  unfold rng at h
  rw [List.getElem?_map] at h
  cases e : (List.range (b - 0).toNat)[i]? with
  | none => rw [e] at h; cases h
  | some x =>
    rw [e] at h
    obtain ⟨h1, h2⟩ := List.getElem?_eq_some_iff.mp e
    rw [List.getElem_range] at h2
    have h3 : (0 : Int) + (x : Int) = k := Option.some.inj h
    omega
theorem rng_length (a b : Int) : (rng a b).length = (b - a).toNat := by unfold rng; rw [List.length_map, List.length_range]
theorem si_rng (ha : SdE g W ta ia) : SdI g W (iRng1 (tCons ta tNil)) (itRng ia) := fun ι ρ S σ H R s e h =>
  ha ι ρ S σ H _ s e (h.then fun x ι1 S1 H1 l s1 h1 v vx => by
    try dsimp only at h1
    split at h1
    · rename_i n
      split at h1
      · rename_i hn
        cases vx
        have wk : Walk (Itr 0 n.toNat) ((rng 0 n).map fun i => It1.one (.int i)).length (fun _ => True) (YFn fun i => .int (0 + i)) := by
          rw [List.length_map, rng_length, Int.sub_zero]; exact walk_range
        refine ⟨n, rfl, by omega, by omega, h1 _ _ (Ext.refl _ _) s1 _ ⟨_, _, wk, fun ι' S' H' l' f' s' hc => trivial, fun i it ι' S' H2 y H3 e1 l' f' s' hc hy => ?_⟩⟩
        obtain ⟨z1, z2⟩ := hy
        subst z1
        have e1' : ((rng 0 n).map fun i => It1.one (.int i))[i]? = some it := e1
        rw [List.getElem?_map] at e1'
        cases e2 : (rng 0 n)[i]? with
        | none => rw [e2] at e1'; cases e1'
        | some k =>
          rw [e2] at e1'
          have e3 := (Option.some.inj e1').symm
          subst e3
          refine ⟨s', Ext.refl _ _, ?_⟩
          show y = V.int k
          rw [z2, rng_get e2]
          show V.int (0 + (i : Int)) = _
          rw [Int.zero_add]
      · exact h1.elim
    · exact h1.elim)
theorem si_enum (ha : SdE g W ta ia) : SdI g W (iEnum g.K (tCons ta tNil)) (itEnum ia) := fun ι ρ S σ H R s e h =>
  ha ι ρ S σ H _ s e (h.then fun x ι1 S1 H1 l s1 h1 v vx => by
    try dsimp only at h1
    split at h1
    · rename_i xs ex
      obtain ⟨a, vs, rfl, hq, r⟩ := getL_ok s1 vx ex
      have wk : Walk (Ite g.K a) (enuI 0 xs).length (fun H => SqL g.K H a vs) (YPair (fun i => some (.int (i : Nat))) (fun i => vs[i]?)) := by
        rw [enuI_length, Paired.len r]; exact walk_enum (xs := vs)
      refine ⟨a, vs, rfl, hq, h1 _ _ (Ext.refl _ _) s1 _ ⟨_, _, wk, fun ι' S' H' l' f' s' hc => sameAt_L s1 vx ex r l' s' hc, fun i it ι' S' H2 y H3 e1 l' f' s' hc hy => ?_⟩⟩
      obtain ⟨T, x1, y1, rfl, hT, rfl, z1, z2⟩ := hy
      obtain ⟨x', e2, rfl⟩ := enuI_get 0 xs i it e1
      obtain ⟨w, e3, e4⟩ := Paired.get r e2
      have z2' : vs[i]? = some y1 := z2
      rw [e3] at z2'; cases z1; cases z2'
      exact ⟨s'.more hT, Ext.new hT, T, _, rfl, upd_same, .cons (by rw [Nat.zero_add]; rfl) (.cons (e4.mono l') .nil)⟩
    · exact h1.elim)
theorem si_zip (ha : SdE g W ta ia) (hb : SdE g W tb ib) : SdI g W (iZip g.K (tCons ta (tCons tb tNil))) (itZip ia ib) := fun ι ρ S σ H R s e h =>
  ha ι ρ S σ H _ s e (h.then fun x ι1 S1 H1 l s1 h1 v vx => hb ι1 ρ S1 σ H1 _ s1 (e.mono l.le) (h1.then fun y ι2 S2 H2 l2 s2 h2 u vy => by
    try dsimp only at h2
    split at h2
    · rename_i xs ys ex ey
      have vx2 := vx.mono l2.le
      obtain ⟨a, vs, rfl, hq, r⟩ := getL_ok s2 vx2 ex
      obtain ⟨b, ws, rfl, hq', r'⟩ := getL_ok s2 vy ey
      have wk : Walk (Itz g.K a b) (zipI xs ys).length (fun H => SqL g.K H a vs ∧ SqL g.K H b ws) (YPair (fun i => vs[i]?) (fun i => ws[i]?)) :=
        walk_zip (by rw [zipI_length, Paired.len r, Paired.len r'])
      refine ⟨a, b, vs, ws, rfl, hq, hq', h2 _ _ (Ext.refl _ _) s2 _ ⟨_, _, wk, fun ι' S' H' l' f' s' hc => ?_, fun i it ι' S' H3 z H4 e1 l' f' s' hc hy => ?_⟩⟩
      · have hc' : (sameAt S2 x S' && sameAt S2 y S') = true := hc
        rw [Bool.and_eq_true] at hc'
        exact ⟨sameAt_L s2 vx2 ex r l' s' hc'.1, sameAt_L s2 vy ey r' l' s' hc'.2⟩
      · obtain ⟨T, x1, y1, rfl, hT, rfl, z1, z2⟩ := hy
        obtain ⟨x', y', e2, e5, rfl⟩ := zipI_get xs ys i it e1
        obtain ⟨w, e3, e4⟩ := Paired.get r e2
        obtain ⟨w', e6, e7⟩ := Paired.get r' e5
        have z1' : vs[i]? = some x1 := z1
        have z2' : ws[i]? = some y1 := z2
        rw [e3] at z1'; rw [e6] at z2'; cases z1'; cases z2'
        exact ⟨s'.more hT, Ext.new hT, T, _, rfl, upd_same, .cons (e4.mono l') (.cons (e7.mono l') .nil)⟩
    · exact h2.elim))
end
end IL

end
section
set_option Elab.async false
set_option linter.all false
set_option maxRecDepth 100000
set_option maxHeartbeats 2000000
namespace IL
open PySem L2
/-! ### statements -/
def PO (g : Gm) (ι : List Addr) (H : Hp) (W : WH) (D : Ends) : O → Prop
  | .nx ρ S => ∀ ι' σ' H', Ext ι H ι' H' → Sim g ι' S H' → ER g ι' ρ σ' → D.nx σ' H'
  | .rt x S => ∀ ι' v H', Ext ι H ι' H' → Sim g ι' S H' → VR g ι' x v → D.rt v H'
  | .ex c ρ S => ∀ ι' σ' H', Ext ι H ι' H' → Sim g ι' S H' → ER g ι' ρ σ' → W c σ' H'
  | .no => False
def SdS (g : Gm) (W : WH) (t : TS) (i : IS) : Prop := ∀ ι ρ S σ H (D : Ends), Sim g ι S H → ER g ι ρ σ → PO g ι H W D (i ρ S) → t D σ H
section
variable {g : Gm} {W : WH} {ι : List Addr} {S : Sto} {H : Hp} {ta tb te : TE} {ia ib ie : IE} {t u : TS} {i j : IS} {D : Ends} {ρ : Env} {σ : St}
theorem PO.le {ι' : List Addr} {H' : Hp} {o : O} (l : Ext ι H ι' H') (h : PO g ι H W D o) : PO g ι' H' W D o := by
  cases o with
  | nx ρ S => exact fun a b c l2 => h a b c (l.trans l2)
  | rt ρ S => exact fun a b c l2 => h a b c (l.trans l2)
  | ex c ρ S => exact fun a b c l2 => h a b c (l.trans l2)
  | no => exact h
theorem PO.then {α : Type} {r : R α} {k : α → Sto → O} {T' : α → List Addr → Hp → Prop} (e : ER g ι ρ σ) (h : PO g ι H W D (r.toO ρ k)) (f : ∀ x ι' S' H', Ext ι H ι' H' → Sim g ι' S' H' → PO g ι' H' W D (k x S') → T' x ι' H') : P g ι H (W · σ) T' r := by
  cases r with
  | ok x S' => exact fun ι2 H2 l s => f x ι2 S' H2 l s (PO.le l h)
  | ex c S' => exact fun ι2 H2 l s => h ι2 σ H2 l s (e.mono l.le)
  | no => exact h
theorem ss_next : SdS g W tNext sNext := fun ι ρ S σ H D s e h => h _ _ _ (Ext.refl _ _) s e
theorem ss_seq (h1 : SdS g W t i) (h2 : SdS g W u j) : SdS g W (tSeq t u) (sSeq i j) := fun ι ρ S σ H D s e h => by
  refine h1 ι ρ S σ H { D with nx := u D } s e ?_
  have h' : PO g ι H W D ((i ρ S).seq j) := h
  cases hi : i ρ S with
  | nx ρ' S' => rw [hi] at h'; exact fun ι' σ' H' l s' e' => h2 ι' ρ' S' σ' H' D s' e' (PO.le l h')
  | rt v S' => rw [hi] at h'; exact h'
  | ex c ρ' S' => rw [hi] at h'; exact h'
  | no => rw [hi] at h'; exact h'
theorem ss_asg {gt : TG} {tg : IG} (he : SdE g W te ie) (hg : SdG g W gt tg) : SdS g W (tAsg te gt) (sAsg ie tg) := fun ι ρ S σ H D s e h =>
  he ι ρ S σ H _ s e (h.then e fun x ι1 S1 H1 l s1 h1 v vx => hg ι1 S1 ρ σ H1 (.one x) v _ s1 (e.mono l.le) vx (h1.then (e.mono l.le) fun ρ' ι2 S2 H2 l2 s2 h2 σ' e' => h2 _ _ _ (Ext.refl _ _) s2 e'))
theorem ss_par {a b : Nat} {tA : TA} {iA : IA} (ha : SdA g W tA iA) : SdS g W (tPar a b tA) (sPar a b iA) := fun ι ρ S σ H D s e h =>
  ha ι ρ S σ H _ s e (h.then e fun x ι1 S1 H1 l s1 h1 v vx => by
    try dsimp only at h1
    split at h1
    · obtain ⟨p, q, rfl, v1, v2⟩ := vrs2 vx
      exact ⟨p, q, rfl, h1 _ _ _ (Ext.refl _ _) s1 (((e.mono l.le).set a v1).set b v2)⟩
    · exact h1.elim)
theorem ss_par3 {a b c : Nat} {tA : TA} {iA : IA} (ha : SdA g W tA iA) : SdS g W (tPar3 a b c tA) (sPar3 a b c iA) := fun ι ρ S σ H D s e h =>
  ha ι ρ S σ H _ s e (h.then e fun x ι1 S1 H1 l s1 h1 v vx => by
    try dsimp only at h1
    split at h1
    · cases vx with
      | cons v1 r =>
        obtain ⟨p, q, rfl, v2, v3⟩ := vrs2 r
        exact ⟨_, p, q, rfl, h1 _ _ _ (Ext.refl _ _) s1 ((((e.mono l.le).set a v1).set b v2).set c v3)⟩
    · exact h1.elim)
theorem ss_expr (he : SdE g W te ie) : SdS g W (tDrop te) (sExpr ie) := fun ι ρ S σ H D s e h =>
  he ι ρ S σ H _ s e (h.then e fun x ι1 S1 H1 l s1 h1 v vx => h1 _ _ _ (Ext.refl _ _) s1 (e.mono l.le))
theorem ss_ret (he : SdE g W te ie) : SdS g W (tRet te) (sRet ie) := fun ι ρ S σ H D s e h =>
  he ι ρ S σ H _ s e (h.then e fun x ι1 S1 H1 l s1 h1 v vx => h1 _ _ _ (Ext.refl _ _) s1 vx)
theorem ss_retN : SdS g W tRetN sRetN := fun ι ρ S σ H D s e h => h _ _ _ (Ext.refl _ _) s rfl
theorem ss_if {tc : TT} {ic : IT} (hc : SdT g W tc ic) (h1 : SdS g W t i) (h2 : SdS g W u j) : SdS g W (tIfS tc t u) (sIf ic i j) := fun ι ρ S σ H D s e h =>
  hc ι ρ S σ H _ s e (h.then e fun x ι1 S1 H1 l s1 h3 => by
    cases x with
    | true => exact h1 ι1 ρ S1 σ H1 D s1 (e.mono l.le) h3
    | false => exact h2 ι1 ρ S1 σ H1 D s1 (e.mono l.le) h3)
/-- a raise where nothing is wished for -/
def tDead : TS := fun _ _ _ => False
theorem ps_dead {X : Cx} {st : Stmt} : PS X st tDead := ⟨fun _ _ _ _ _ _ h => h.elim⟩
theorem ss_dead {c : Str} : SdS g W0 tDead (sRaise c) := fun ι ρ S σ H D s e h => h _ _ _ (Ext.refl _ _) s e
theorem fr_put {f : Str} {d : Va} {v : V} {fs : List (Str × Va)} {vs : List (Str × V)} (h : VR g ι d v) (r : Paired (FR g ι) fs vs) : Paired (FR g ι) (putF f d fs) (L2.putF f v vs) := by
  induction r with
  | nil => exact .cons ⟨rfl, h⟩ .nil
  | @cons e kv fs vs q t ih =>
    obtain ⟨k, x⟩ := e
    obtain ⟨k2, w⟩ := kv
    obtain ⟨q1, q2⟩ := q
    dsimp only at q1 q2
    subst q1
    unfold putF L2.putF
    dsimp only
    by_cases hk : k2 = f
    · rw [if_pos hk, if_pos hk]
      exact .cons ⟨hk, h⟩ t
    · rw [if_neg hk, if_neg hk]
      exact .cons ⟨rfl, q2⟩ ih
theorem ss_fld {f : Str} (cl : Cl g) (na : ∀ c ∈ clsL, NoAttr g.K (g.γ c) f) (ho : SdE g W ta ia) (he : SdE g W te ie) : SdS g W (sFld g.K ta te f) (sFldSet ia f ie) := fun ι ρ S σ H D s e h =>
  he ι ρ S σ H _ s e (h.then e fun x ι1 S1 H1 l s1 h1 v vx => ho ι1 ρ S1 σ H1 _ s1 (e.mono l.le) (h1.then (e.mono l.le) fun y ι2 S2 H2 l2 s2 h2 w vy => by
    try dsimp only at h2
    split at h2
    · rename_i n
      split at h2
      · rename_i c fs eo
        split at h2
        · rename_i hc
          obtain ⟨p, rfl, ep, dx, vs, hp, rp⟩ := s2.ref eo vy
          refine ⟨p, _, dx, vs, rfl, hp, cl.cls c hc.1, na c hc.1, by rw [← Paired.len rp]; omega, ?_⟩
          exact h2 _ _ _ (Ext.put ep (fun ob u z => by rw [hp] at z; cases z)) (s2.put ep (fun ob u z => by rw [hp] at z; cases z) ⟨dx, _, upd_same, fr_put (vx.mono l2.le) rp⟩) (e.mono (l.trans l2).le)
        · exact h2.elim
      · exact h2.elim
    · exact h2.elim))
theorem ss_dset {td tk : TE} {id ik : IE} (hd : SdE g W td id) (hk : SdE g W tk ik) (he : SdE g W te ie) : SdS g W (sDPut td tk te) (sDSet id ik ie) := fun ι ρ S σ H D s e h =>
  he ι ρ S σ H _ s e (h.then e fun x ι1 S1 H1 l s1 h1 v vx => hd ι1 ρ S1 σ H1 _ s1 (e.mono l.le) (h1.then (e.mono l.le) fun y ι2 S2 H2 l2 s2 h2 w vy => hk ι2 ρ S2 σ H2 _ s2 (e.mono (l.trans l2).le) (h2.then (e.mono (l.trans l2).le) fun z ι3 S3 H3 l3 s3 h3 q vz => by
    try dsimp only at h3
    split at h3
    · rename_i n k
      split at h3
      · rename_i es ee
        split at h3
        · rename_i hl
          obtain ⟨p, rfl, ep, kvs, hp, rp⟩ := s3.ref ee (vy.mono l3.le)
          cases vz
          refine ⟨p, _, rfl, .inl ⟨kvs, .inl k, hp, rfl, Evl.sz_lt (by rw [← Paired.len rp]; exact hl), rfl⟩, ?_⟩
          exact h3 _ _ _ (Ext.put ep (fun ob u z => by rw [hp] at z; cases z)) (s3.put ep (fun ob u z => by rw [hp] at z; cases z) ⟨_, upd_same, kr_put k rp (vx.mono (l2.trans l3).le)⟩) (e.mono (l.trans (l2.trans l3)).le)
        · exact h3.elim
      · exact h3.elim
    · exact h3.elim)))
theorem ss_aug {a : Nat} (he : SdE g W te ie) : SdS g W (tAug a te (ipI fun x y => x + y)) (sAug a ie) := fun ι ρ S σ H D s e h => by
  unfold sAug at h
  split at h
  · rename_i x ex
    obtain ⟨v, h1, h2⟩ := e.at_ a _ ex
    cases h2
    refine ⟨_, h1, he ι ρ S σ H _ s e (h.then e fun y ι1 S1 H1 l s1 h3 w vy => ?_)⟩
    try dsimp only at h3
    split at h3
    · rename_i j
      cases vy
      exact ⟨x, j, rfl, rfl, h3 _ _ _ (Ext.refl _ _) s1 ((e.mono l.le).set a (x := .int (x + j)) rfl)⟩
    · exact h3.elim
  · exact h.elim
def rGetL (K : PySem.W.Frag) : V → V → Hp → VK → Prop := fun o i H Q => ∃ p xs k v, o = .ref p ∧ i = .int k ∧ SqL K H p xs ∧ atI xs k = some v ∧ Q v H
theorem setL_okO {o i x : Va} {vo vi v : V} {Q : Hp → Prop} {k : Unit → Sto → O} (s : Sim g ι S H) (ho : VR g ι o vo) (hi : VR g ι i vi) (hv : VR g ι x v) (h : PO g ι H W D ((setL o i x S).toO ρ k))
    (f : ∀ S' H', Ext ι H ι H' → Sim g ι S' H' → PO g ι H' W D (k () S') → Q H') : rSetL vo vi v H Q := by
  unfold setL at h
  split at h
  · rename_i n z
    split at h
    · rename_i xs ex
      split at h
      · rename_i j ej
        obtain ⟨a, rfl, ea, vs, hp, rp⟩ := s.ref ex ho
        cases hi
        refine ⟨a, vs, z, j, rfl, rfl, hp, by rw [← Paired.len rp]; exact ej, ?_⟩
        exact f _ _ (Ext.put ea (notFrz_lst hp)) (s.putL ea hp (Paired.set hv j rp)) (PO.le (Ext.put ea (notFrz_lst hp)) h)
      · exact h.elim
    · exact h.elim
  · exact h.elim
end
end IL

end
section
set_option Elab.async false
set_option linter.all false
set_option maxRecDepth 100000
set_option maxHeartbeats 2000000
namespace IL
open PySem L2
section
variable {g : Gm} {W : WH} {ι : List Addr} {S : Sto} {H : Hp} {ta tb te : TE} {ia ib ie : IE} {t u : TS} {i j : IS} {D : Ends} {ρ : Env} {σ : St}
open PyProof.Rows in
theorem get_LIST {X : Cx} : PGet X (rGetL X.K) := by
  intro pins s σ H o i ov iv Q I ro ri h
  obtain ⟨p, xs, k, z, rfl, rfl, hq, he, q⟩ := h
  cases ro
  obtain ⟨t, rfl⟩ := ri
  obtain ⟨its, r, pl, hz⟩ := I.list hq
  obtain ⟨j, h1, h2, h3, h4, h5⟩ := atI_get he
  obtain ⟨w, ew, rw'⟩ := r.get h2
  have hl := r.length
  have hn := line63
  have fin : EP X pins σ Q w s := ⟨z, H, I, rw', q⟩
  by_cases h0 : 0 ≤ k
  · have hj : k.toNat = j := by
      rw [seqIndex_of h0 h5] at h1
      exact Option.some.inj h1
    exact wpAny_getItem_list pl.isList h0 (by omega) (by rw [hj]; simpa using ew) fin
  · have hj : (k + (its.toArray.size : Int)).toNat = j := by
      rw [seqIndex_neg (by omega) h4] at h1
      rw [List.size_toArray, ← hl]
      exact Option.some.inj h1
    exact wpAny_getItem_list_neg pl.isList (by omega) (by rw [List.size_toArray] <;> omega) (by omega) (by rw [hj]; simpa using ew) fin
theorem ss_augS {to ti : TE} {io ii : IE} (ho : SdE g W to io) (hi : SdE g W ti ii) (he : SdE g W te ie) : SdS g W (tAugS to ti te (rGetL g.K) (ipI fun x y => x + y) rSetL) (sAugS io ii ie) := fun ι ρ S σ H D s e h =>
  ho ι ρ S σ H _ s e (h.then e fun x ι1 S1 H1 l s1 h1 v vx => hi ι1 ρ S1 σ H1 _ s1 (e.mono l.le) (h1.then (e.mono l.le) fun y ι2 S2 H2 l2 s2 h2 w vy => by
    have h2' : PO g ι2 H2 W D ((fIxL x y S2).toO ρ fun z S3 => (ie ρ S3).toO ρ fun w S4 => match z, w with
      | .int a, .int b => (setL x y (.int (a + b)) S4).toO ρ fun _ S5 => .nx ρ S5
      | _, _ => .no) := h2
    unfold fIxL at h2'
    split at h2'
    · rename_i xs k ex
      split at h2'
      · rename_i z ez
        obtain ⟨a, vs, rfl, hq, r⟩ := getL_ok s2 (vx.mono l2.le) ex
        obtain ⟨z', e1, e2⟩ := Paired.atI r ez
        cases vy
        refine ⟨a, vs, k, z', rfl, rfl, hq, e1, ?_⟩
        refine he ι2 ρ S2 σ H2 _ s2 (e.mono (l.trans l2).le) (h2'.then (e.mono (l.trans l2).le) fun q ι3 S3 H3 l3 s3 h3 u vu => ?_)
        try dsimp only at h3
        split at h3
        · rename_i p q
          cases (e2.mono l3.le); cases vu
          refine ⟨p, q, rfl, rfl, setL_okO s3 ((vx.mono l2.le).mono l3.le) (i := .int k) (vi := .int k) rfl (x := .int (p + q)) (v := .int (p + q)) rfl h3 fun S4 H4 l4 s4 h4 => ?_⟩
          exact h4 _ _ _ (Ext.refl _ _) s4 (e.mono (l.trans (l2.trans l3)).le)
        · exact h3.elim
      · exact h2'.elim
    · exact h2'.elim))
/-! ### for -/
theorem ss_for {wi : TI} {ii : II} {gt : TG} {tg : IG} (hw : SdI g W wi ii) (hg : SdG g W gt tg) (hb : SdS g W t i) : SdS g W (tFor wi gt t) (sFor ii tg i) := fun ι ρ S σ H D s e h =>
  hw ι ρ S σ H _ s e (h.then e fun I ι1 S1 H1 l s1 h1 J wk => by
    obtain ⟨G, Y, w, hG, hY⟩ := wk
    have chk : ∀ (its : List It1) (ρ' : Env) (S' : Sto) {ι' H'}, PO g ι' H' W D (forL I.chk tg i its ρ' S') → I.chk S' = true := fun its ρ' S' ι' H' h => by
      cases hc : I.chk S' with
      | true => rfl
      | false => cases its <;> (unfold forL at h; rw [hc, if_neg (by simp)] at h; exact h.elim)
    refine for_it w (fun k σ' H' => ∃ ι' ρ' S', Ext ι1 H1 ι' H' ∧ Sim g ι' S' H' ∧ ER g ι' ρ' σ' ∧ PO g ι' H' W D (forL I.chk tg i (I.items.drop k) ρ' S')) ?_ ?_ ?_ ?_
    · exact ⟨ι1, ρ, S1, Ext.refl _ _, s1, e.mono l.le, h1⟩
    · rintro k σ' H' _ ⟨ι', ρ', S', l', s', e', h'⟩
      exact hG ι' S' H' l'.le l'.fz s' (chk _ _ _ h')
    · rintro k x σ' H' H'' hk ⟨ι', ρ', S', l', s', e', h'⟩ hy
      have hc := chk _ _ _ h'
      obtain ⟨it, hit⟩ : ∃ it, I.items[k]? = some it := ⟨I.items[k], by simp [hk]⟩
      obtain ⟨s2, l2, r2⟩ := hY k it ι' S' H' x H'' hit l'.le l'.fz s' hc hy
      have ed : I.items.drop k = it :: I.items.drop (k + 1) := by
        rw [List.drop_eq_getElem_cons hk]
        congr 1
        exact (List.getElem?_eq_some_iff.mp hit).2
      rw [ed] at h'
      unfold forL at h'
      rw [hc, if_pos rfl] at h'
      have h2 : PO g ι' H'' W D (((tg it ρ' S').toO ρ' fun ρ1 S1 => i ρ1 S1).seq (forL I.chk tg i (I.items.drop (k + 1)))) := PO.le l2 h'
      refine hg ι' S' ρ' σ' H'' it x _ s2 e' r2 ?_
      cases ht : tg it ρ' S' with
      | ok ρ1 S1' =>
        rw [ht] at h2
        intro ι3 H3 l3 s3 σ3 e3
        refine hb ι3 ρ1 S1' σ3 H3 _ s3 e3 ?_
        have h3 : PO g ι3 H3 W D ((i ρ1 S1').seq (forL I.chk tg i (I.items.drop (k + 1)))) := PO.le l3 h2
        cases hi : i ρ1 S1' with
        | nx ρ2 S2 =>
          rw [hi] at h3
          exact fun ι4 σ4 H4 l4 s4 e4 => ⟨ι4, ρ2, S2, l'.trans (l2.trans (l3.trans l4)), s4, e4, PO.le l4 h3⟩
        | rt v S2 => rw [hi] at h3; exact h3
        | ex c ρ2 S2 => rw [hi] at h3; exact h3
        | no => rw [hi] at h3; exact h3.elim
      | ex c S1' => rw [ht] at h2; exact fun ι3 H3 l3 s3 => h2 ι3 σ' H3 l3 s3 (e'.mono l3.le)
      | no => rw [ht] at h2; exact h2.elim
    · rintro σ' H' ⟨ι', ρ', S', l', s', e', h'⟩
      have hc := chk _ _ _ h'
      rw [List.drop_length] at h'
      unfold forL at h'
      rw [hc, if_pos rfl] at h'
      exact h' _ _ _ (Ext.refl _ _) s' e')
/-! ### while -/
theorem ss_whileF {tc : TT} {ic : IT} (hc : SdT g W tc ic) (hb : SdS g W t i) (n : Nat) : SdS g W (tWhile tc t) (whF ic i n) := fun ι ρ S σ H D s e h => by
  refine ⟨fun m σ' H' => ∃ ι' ρ' S', Sim g ι' S' H' ∧ ER g ι' ρ' σ' ∧ PO g ι' H' W D (whF ic i m ρ' S'), ⟨n, ι, ρ, S, s, e, h⟩, ?_⟩
  rintro m σ' H' ⟨ι', ρ', S', s', e', h'⟩
  cases m with
  | zero => exact h'.elim
  | succ m =>
    unfold whF at h'
    refine hc ι' ρ' S' σ' H' _ s' e' (h'.then e' fun c ι1 S1 H1 l s1 h1 => ?_)
    cases c with
    | false => rw [if_neg (by simp)] at h1 ⊢; exact h1 _ _ _ (Ext.refl _ _) s1 (e'.mono l.le)
    | true =>
      rw [if_pos rfl] at h1 ⊢
      refine ⟨fun σ2 H2 => ∃ ι2 ρ2 S2, Sim g ι2 S2 H2 ∧ ER g ι2 ρ2 σ2 ∧ PO g ι2 H2 W D (whF ic i m ρ2 S2), fun σ2 H2 q => ⟨m, Nat.lt_succ_self m, q⟩, ?_⟩
      refine hb ι1 ρ' S1 σ' H1 _ s1 (e'.mono l.le) ?_
      cases hi : i ρ' S1 with
      | nx ρ2 S2 =>
        rw [hi] at h1
        exact fun ι4 σ4 H4 l4 s4 e4 => ⟨ι4, ρ2, S2, s4, e4, PO.le l4 h1⟩
      | rt v S2 => rw [hi] at h1; exact h1
      | ex c ρ2 S2 => rw [hi] at h1; exact h1
      | no => rw [hi] at h1; exact h1.elim
theorem ss_while {tc : TT} {ic : IT} (hc : SdT g W tc ic) (hb : SdS g W t i) : SdS g W (tWhile tc t) (sWhile ic i) := fun ι ρ S σ H D s e h => by
  unfold sWhile at h
  split at h
  · exact ss_whileF hc hb _ ι ρ S σ H D s e h
  · exact h.elim
/-! ### comprehensions -/
theorem wipe_set {σ : St} {y : Option V} {j : Nat} : ∀ {vs : List Nat}, j ∈ vs → wipe (σ.set j y) vs = wipe σ vs
  | [], h => by simp at h
  | v :: vs, h => by
    unfold wipe
    by_cases hj : j ∈ vs
    · rw [wipe_set hj]
    · have e : v = j := by
        rcases List.mem_cons.mp h with e | e
        · exact e.symm
        · exact (hj e).elim
      subst e
      have c : wipe (σ.set v y) vs = (wipe σ vs).set v y := by
        clear h
        induction vs with
        | nil => rfl
        | cons w vs ih =>
          unfold wipe
          have hw : v ≠ w := fun z => hj (by rw [z]; exact List.mem_cons_self)
          rw [ih (fun z => hj (List.mem_cons_of_mem _ z)), List.set_comm _ _ hw]
      rw [c, List.set_set]
theorem wipe_wipe {σ : St} {vs : List Nat} : ∀ l : List Nat, (∀ j ∈ l, j ∈ vs) → wipe (wipe σ l) vs = wipe σ vs
  | [], _ => rfl
  | a :: l, h => by
    show wipe ((wipe σ l).set a none) vs = _
    rw [wipe_set (h a List.mem_cons_self)]
    exact wipe_wipe l fun j hj => h j (List.mem_cons_of_mem _ hj)
/-- a target that stores into vs alone -/
def Wp (gt : TG) (vs : List Nat) : Prop := ∀ x σ H (Q : St → Hp → Prop), gt x σ H Q → gt x σ H fun σ2 H2 => wipe σ2 vs = wipe σ vs ∧ Q σ2 H2
theorem wp_name {j : Nat} {vs : List Nat} (h : j ∈ vs) : Wp (gName j) vs := fun x σ H Q q => ⟨wipe_set h, q⟩
def Wps (gt : TGs) (vs : List Nat) : Prop := ∀ xs σ H (Q : St → Hp → Prop), gt xs σ H Q → gt xs σ H fun σ2 H2 => wipe σ2 vs = wipe σ vs ∧ Q σ2 H2
theorem wps_nil {vs : List Nat} : Wps gNil vs := fun xs σ H Q ⟨e, q⟩ => ⟨e, rfl, q⟩
theorem wps_cons {j : Nat} {gs : TGs} {vs : List Nat} (h : j ∈ vs) (r : Wps gs vs) : Wps (gCons (gName j) gs) vs := fun xs σ H Q ⟨v, rr, e, q⟩ => by
  refine ⟨v, rr, e, ?_⟩
  have q' : gs rr (σ.set j (some v)) H Q := q
  have := r rr (σ.set j (some v)) H Q q'
  rw [wipe_set h] at this
  exact this
theorem wp_tup {K : PySem.W.Frag} {n : Nat} {gs : TGs} {vs : List Nat} (r : Wps gs vs) : Wp (gTup K n gs) vs := fun x σ H Q ⟨a, xs, e, h1, h2, q⟩ => ⟨a, xs, e, h1, h2, r xs σ H Q q⟩
theorem ER.wipe (e : ER g ι ρ σ) : ∀ vs : List Nat, ER g ι (wipeE ρ vs) (wipe σ vs)
  | [] => e
  | v :: vs => (ER.wipe e vs).unset v
theorem P.thenN {α β : Type} {ι0 : List Addr} {H0 : Hp} {W' : Str → Hp → Prop} {r : R α} {k : α → Sto → R β} {T' : α → List Addr → Hp → Prop} {y : β} {S9 : Sto} (h : r.bindN k = .ok y S9) (f : ∀ x ι' S' H', Ext ι0 H0 ι' H' → Sim g ι' S' H' → k x S' = .ok y S9 → T' x ι' H') : P g ι0 H0 W' T' r := by
  cases r with
  | ok x S' => exact fun ι2 H2 l s => f x ι2 S' H2 l s h
  | ex c S' => cases h
  | no => cases h
theorem lc_gen {J : It} {I : Its} {gt : TG} {tg : IG} {tt : TT} {it' : IT} {vs : List Nat} {A : Addr} {Qd : Hp → Prop} {ys : List Va} {S9 : Sto} (hg : SdG g W0 gt tg) (wp : Wp gt vs) (ht : SdT g W0 tt it') (he : SdE g W0 te ie)
    (wk : Wk g ι H J I) (hz : I.items.length ≤ 100000) (s : Sim g ι S H) (e : ER g ι ρ σ) (hA : H A = none) (h : lcL I.chk tg it' ie (wipeE ρ vs) I.items S = .ok ys S9)
    (fin : ∀ ι2 H2 acc, Le ι ι2 → (∀ a, a ≠ A → a ∉ ι → H a ≠ none → a ∉ ι2 ∧ H2 a = H a) → Frz H H2 → A ∉ ι2 → H2 A = some (.lst acc) → Sim g ι2 S9 H2 → VRs g ι2 ys acc → Qd H2) :
    ∃ W : Nat → Nat → Hp → Prop, (∃ m, W 0 m (upd H A (.lst []))) ∧ ∀ i m H, W i m H →
      (J.stop i H ∧ Qd H) ∨ (J.go i H ∧ ∃ Nx : Hp → Prop, (∀ H', Nx H' → ∃ m', m' < m ∧ W (i + 1) m' H') ∧ ∀ x H', J.yld i H x H' → gt x (wipe σ vs) H' fun σ2 H2 => wipe σ2 vs = wipe σ vs ∧ tt σ2 H2 fun b H3 =>
        if b = true then te σ2 H3 fun y H4 => ∃ acc, H4 A = some (.lst acc) ∧ acc.length < sizeLine ∧ Nx (upd H4 A (.lst (acc ++ [y]))) else Nx H3) := by
  obtain ⟨G, Y, w, hG, hY⟩ := wk
  have chk : ∀ (its : List It1) (S' : Sto) (zs : List Va), lcL I.chk tg it' ie (wipeE ρ vs) its S' = .ok zs S9 → I.chk S' = true := fun its S' zs h => by
    cases hc : I.chk S' with
    | true => rfl
    | false => cases its <;> (unfold lcL at h; rw [hc, if_neg (by simp)] at h; cases h)
  refine lc_it w (fun k H' => ∃ ι' S' acc av rest, Le ι ι' ∧ (∀ a, a ≠ A → a ∉ ι → H a ≠ none → a ∉ ι' ∧ H' a = H a) ∧ Frz H H' ∧ A ∉ ι' ∧ H' A = some (.lst av) ∧ Sim g ι' S' H' ∧ VRs g ι' acc av ∧ acc.length ≤ k ∧ ys = acc ++ rest ∧ lcL I.chk tg it' ie (wipeE ρ vs) (I.items.drop k) S' = .ok rest S9) ?_ ?_ ?_ ?_
  · exact ⟨ι, S, [], [], ys, Le.refl _, fun a h1 h2 h3 => ⟨h2, upd_ne h1⟩, Frz.new hA, s.fresh hA, upd_same, s.more hA, .nil, Nat.le_refl _, rfl, h⟩
  · rintro k H' _ ⟨ι', S', acc, av, rest, l', fr', fz', na', ha', s', r', hl', e', h'⟩
    exact hG ι' S' H' l' fz' s' (chk _ _ _ h')
  · rintro k x H' H'' hk ⟨ι', S', acc, av, rest, l', fr', fz', na', ha', s', r', hl', e', h'⟩ hy
    have hc := chk _ _ _ h'
    obtain ⟨it, hit⟩ : ∃ it, I.items[k]? = some it := ⟨I.items[k], by simp [hk]⟩
    obtain ⟨s2, l2, r2⟩ := hY k it ι' S' H' x H'' hit l' fz' s' hc hy
    have ed : I.items.drop k = it :: I.items.drop (k + 1) := by
      rw [List.drop_eq_getElem_cons hk]
      congr 1
      exact (List.getElem?_eq_some_iff.mp hit).2
    rw [ed] at h'
    unfold lcL at h'
    rw [hc, if_pos rfl] at h'
    have ew : ER g ι' (wipeE ρ vs) (wipe σ vs) := (e.mono l').wipe vs
    have key := wp x (wipe σ vs) H'' _ (hg ι' S' (wipeE ρ vs) (wipe σ vs) H'' it x (fun σ2 H2 => tt σ2 H2 fun b H3 =>
        if b = true then te σ2 H3 fun y H4 => ∃ acc, H4 A = some (.lst acc) ∧ acc.length < sizeLine ∧ (∃ ι' S' acc' av rest, Le ι ι' ∧ (∀ a, a ≠ A → a ∉ ι → H a ≠ none → a ∉ ι' ∧ (upd H4 A (.lst (acc ++ [y]))) a = H a) ∧ Frz H (upd H4 A (.lst (acc ++ [y]))) ∧ A ∉ ι' ∧ (upd H4 A (.lst (acc ++ [y]))) A = some (.lst av) ∧ Sim g ι' S' (upd H4 A (.lst (acc ++ [y]))) ∧ VRs g ι' acc' av ∧ acc'.length ≤ k + 1 ∧ ys = acc' ++ rest ∧ lcL I.chk tg it' ie (wipeE ρ vs) (I.items.drop (k + 1)) S' = .ok rest S9)
        else (∃ ι' S' acc av rest, Le ι ι' ∧ (∀ a, a ≠ A → a ∉ ι → H a ≠ none → a ∉ ι' ∧ H3 a = H a) ∧ Frz H H3 ∧ A ∉ ι' ∧ H3 A = some (.lst av) ∧ Sim g ι' S' H3 ∧ VRs g ι' acc av ∧ acc.length ≤ k + 1 ∧ ys = acc ++ rest ∧ lcL I.chk tg it' ie (wipeE ρ vs) (I.items.drop (k + 1)) S' = .ok rest S9)) s2 ew r2 (P.thenN h' fun ρ1 ι3 S3 H3 l3 s3 h3 σ1 e1 => ?_))
    · rw [wipe_wipe vs fun _ h => h] at key
      exact key
    · refine ht ι3 ρ1 S3 σ1 H3 _ s3 e1 (P.thenN h3 fun b ι4 S4 H4 l4 s4 h4 => ?_)
      have l24 : Ext ι' H' ι4 H4 := l2.trans (l3.trans l4)
      obtain ⟨na4, ha4⟩ := l24.fr A na' (by rw [ha']; intro z; cases z)
      rw [ha'] at ha4
      have fr4 : ∀ a, a ≠ A → a ∉ ι → H a ≠ none → a ∉ ι4 ∧ H4 a = H a := fun a h1 h2 h3 => by
        obtain ⟨p, q⟩ := fr' a h1 h2 h3
        obtain ⟨p', q'⟩ := l24.fr a p (by rw [q]; exact h3)
        exact ⟨p', q'.trans q⟩
      cases b with
      | false =>
        rw [if_neg (by simp)] at h4 ⊢
        exact ⟨ι4, S4, acc, av, rest, l'.trans l24.le, fr4, fz'.trans l24.fz, na4, ha4, s4, r'.mono l24.le, by omega, e', h4⟩
      | true =>
        rw [if_pos rfl] at h4 ⊢
        refine he ι4 ρ1 S4 σ1 H4 _ s4 (e1.mono l4.le) (P.thenN h4 fun y ι5 S5 H5 l5 s5 h5 v vy => ?_)
        have l25 : Ext ι' H' ι5 H5 := l24.trans l5
        obtain ⟨na5, ha5⟩ := l25.fr A na' (by rw [ha']; intro z; cases z)
        rw [ha'] at ha5
        refine ⟨av, ha5, Evl.sz_lt (by rw [← Paired.len r']; omega), ?_⟩
        have hnf := notFrz_lst ha5
        cases hr : lcL I.chk tg it' ie (wipeE ρ vs) (I.items.drop (k + 1)) S5 with
        | ok zs S6 =>
          rw [hr] at h5
          cases h5
          refine ⟨ι5, S5, acc ++ [y], av ++ [v], zs, l'.trans l25.le, fun a h1 h2 h3 => ?_, (fz'.trans l25.fz).trans (Frz.upd hnf), na5, upd_same, s5.other na5 hnf, Paired.append (r'.mono l25.le) (.cons vy .nil), by simp; omega, by rw [e']; simp, hr⟩
          obtain ⟨p, q⟩ := fr4 a h1 h2 h3
          obtain ⟨p', q'⟩ := l5.fr a p (by rw [q]; exact h3)
          exact ⟨p', by rw [upd_ne h1]; exact q'.trans q⟩
        | ex c S6 => rw [hr] at h5; cases h5
        | no => rw [hr] at h5; cases h5
  · rintro H' ⟨ι', S', acc, av, rest, l', fr', fz', na', ha', s', r', hl', e', h'⟩
    have hc := chk _ _ _ h'
    rw [List.drop_length] at h'
    unfold lcL at h'
    rw [hc, if_pos rfl] at h'
    cases h'
    rw [List.append_nil] at e'
    subst e'
    exact fin ι' H' av l' fr' fz' na' ha' s' r'
theorem upd_self {A : Addr} {o : HO} (h : H A = some o) : upd H A o = H := by
  funext b
  by_cases e : b = A
  · subst e; rw [upd_same, h]
  · rw [upd_ne e]
theorem sd_lc {wi : TI} {ii : II} {gt : TG} {tg : IG} {tt : TT} {it : IT} {vs : List Nat} (hw : SdI g W wi ii) (hg : SdG g W0 gt tg) (wp : Wp gt vs) (ht : SdT g W0 tt it) (he : SdE g W0 te ie) : SdE g W (tLc wi gt tt te vs) (iLc ii tg it ie vs) := fun ι ρ S σ H Q s e h =>
  hw ι ρ S σ H _ s e (h.then fun I ι1 S1 H1 l s1 h1 J wk A hA => by
    try dsimp only at h1
    split at h1
    · rename_i hz
      cases hl : lcL I.chk tg it ie (wipeE ρ vs) I.items S1 with
      | ok ys S9 =>
        rw [hl] at h1
        refine lc_gen hg wp ht he wk hz s1 (e.mono l.le) hA hl fun ι2 H2 acc l2 fr fz na ha s2 r => ?_
        refine h1 (ι2 ++ [A]) H2 ⟨l2.trans (Le.snoc _ _), fun a h2 h3 => ?_, fz⟩ ?_ _ s2.newRef
        · have hap : a ≠ A := fun z => h3 (z ▸ hA)
          obtain ⟨x, y⟩ := fr a hap h2 h3
          exact ⟨fun z => (List.mem_append.mp z).elim x fun z => hap (List.mem_singleton.mp z), y⟩
        · have := s2.join (o := .lst ys) (u := .lst acc) na (notFrz_lst ha) ⟨acc, upd_same, r.mono (Le.snoc _ _)⟩
          rwa [upd_self ha] at this
      | ex c S9 => rw [hl] at h1; exact h1.elim
      | no => rw [hl] at h1; exact h1.elim
    · exact h1.elim)
end
end IL

end
section
set_option Elab.async false
set_option linter.all false
set_option maxRecDepth 100000
set_option maxHeartbeats 2000000
namespace IL
open PySem L2
section
variable {g : Gm} {W : WH} {ι : List Addr} {S : Sto} {H : Hp} {ta tb te : TE} {ia ib ie : IE} {t u : TS} {i j : IS} {D : Ends} {ρ : Env} {σ : St}
/-! ### a comprehension over a dict's keys -/
theorem Sim.putS (s : Sim g ι S H) {n : Nat} {a : Addr} {o : Ob} {u : HO} (e : ι[n]? = some a) (h : ObR g ι (upd H a u) a o) (sc : ∀ H', Frz (upd H a u) H' → SqL g.K H' g.a0 (g.ns.map V.int)) : Sim g ι (S.set n o) (upd H a u) := by
  refine ⟨s.nd, by simp [s.len], fun m o' b e1 e2 => ?_, sc⟩
  by_cases hm : n = m
  · subst hm
    rw [e] at e2; cases e2
    have hn : n < S.length := by rw [← s.len]; exact (List.getElem?_eq_some_iff.mp e).1
    rw [List.getElem?_set_self hn] at e1
    cases e1
    exact h
  · rw [List.getElem?_set_ne hm] at e1
    refine (s.ob m o' b e1 e2).heap (upd_ne fun z => hm ?_)
    subst z
    obtain ⟨h1, e1'⟩ := List.getElem?_eq_some_iff.mp e
    obtain ⟨h2, e2'⟩ := List.getElem?_eq_some_iff.mp e2
    exact (List.getElem_inj s.nd).mp (e1'.trans e2'.symm)
theorem sd_lcK {d : Nat} {gt : TG} {tg : IG} {tt : TT} {it : IT} {vs : List Nat} (hg : SdG g W0 gt tg) (wp : Wp gt vs) (ht : SdT g W0 tt it) (he : SdE g W0 te ie) : SdE g W (tLockE (tLc (iKeys (tVar d)) gt tt te vs)) (iLcK d tg it ie vs) := fun ι ρ S σ H Q s e h => by
  unfold iLcK at h
  split at h
  · rename_i n en
    split at h
    · rename_i es ee
      split at h
      · rename_i hz
        obtain ⟨v, ev, vv⟩ := e.at_ d _ en
        obtain ⟨a, rfl, ea, kvs, ha, rk⟩ := s.ref ee vv
        have hnf : ∀ ob u, H a ≠ some (.frz ob u) := fun ob u z => by rw [ha] at z; cases z
        refine ⟨a, .dK kvs, ha, trivial, fun od => ⟨.ref a, ev, a, od, rfl, .inl ⟨kvs, upd_same, fun A hA => ?_⟩⟩⟩
        have s1 : Sim g ι (S.set n .hid) (upd H a (.frz od (.dK kvs))) := s.put ea hnf (by show upd H a _ a ≠ none; rw [upd_same]; intro z; cases z)
        cases hl : lcL (fun _ => true) tg it ie (wipeE ρ vs) (es.map fun e => It1.one (.int e.1)) (S.set n .hid) with
        | ok ys S9 =>
          rw [hl] at h
          have wk : Wk g ι (upd H a (.frz od (.dK kvs))) (Itk a od kvs) ⟨es.map fun e => It1.one (.int e.1), fun _ => true⟩ := by
            have w : Walk (Itk a od kvs) (es.map fun e => It1.one (.int e.1)).length (fun H => H a = some (.frz od (.dK kvs))) (fun i H x H' => H' = H ∧ ∃ k v, kvs[i]? = some (k, v) ∧ x = kV k) := by
              rw [List.length_map, Paired.len rk]; exact walk_keys
            refine ⟨_, _, w, fun ι' S' H' l' f' s' hc => f' a _ _ upd_same, fun k q ι' S' H2 y H3 e1 l' f' s' hc hy => ?_⟩
            obtain ⟨z1, k', v', z2, z3⟩ := hy
            subst z1
            have e1' : (es.map fun e => It1.one (.int e.1))[k]? = some q := e1
            rw [List.getElem?_map] at e1'
            cases e2 : es[k]? with
            | none => rw [e2] at e1'; cases e1'
            | some kv =>
              rw [e2] at e1'
              have e3 := (Option.some.inj e1').symm
              subst e3
              obtain ⟨u, e4, e5⟩ := Paired.get rk e2
              rw [z2] at e4; cases e4
              refine ⟨s', Ext.refl _ _, ?_⟩
              show y = V.int kv.1
              rw [z3, show k' = Sum.inl kv.1 from e5.1]; rfl
          have hz' : (⟨es.map fun e => It1.one (.int e.1), fun _ => true⟩ : Its).items.length ≤ 100000 := by
            show (es.map fun e => It1.one (.int e.1)).length ≤ 100000
            rw [List.length_map]; exact hz
          refine lc_gen hg wp ht he wk hz' s1 e hA hl fun ι2 H2 acc l2 fr fz na hA2 s2 r => ?_
          have ha2 : H2 a = some (.frz od (.dK kvs)) := fz a _ _ upd_same
          have ea2 := l2 n a ea
          have hAa : A ≠ a := fun z => by rw [z, upd_same] at hA; cases hA
          have fzH : Frz H (upd H2 a (.dK kvs)) := fun b ob u hb => by
            have hba : b ≠ a := fun z => by rw [z, ha] at hb; cases hb
            rw [upd_ne hba]
            exact fz b ob u (by rw [upd_ne hba]; exact hb)
          refine ⟨ha2, h (ι2 ++ [A]) (upd H2 a (.dK kvs)) ⟨l2.trans (Le.snoc _ _), fun b h2 h3 => ?_, fzH⟩ ?_ _ s2.newRef⟩
          · have hba : b ≠ a := fun z => h2 (z ▸ List.mem_of_getElem? ea)
            have hbA : b ≠ A := fun z => by
              subst z
              rw [upd_ne hba] at hA
              exact h3 hA
            obtain ⟨x, y⟩ := fr b hbA h2 (by rw [upd_ne hba]; exact h3)
            refine ⟨fun z => (List.mem_append.mp z).elim x fun z => hbA (List.mem_singleton.mp z), ?_⟩
            rw [upd_ne hba, y, upd_ne hba]
          · have rk2 : Paired (KR g ι2) es kvs := Paired.imp (fun _ _ q => ⟨q.1, q.2.mono l2⟩) rk
            have s3 : Sim g ι2 (S9.set n (.dic es)) (upd H2 a (.dK kvs)) := s2.putS ea2 ⟨kvs, upd_same, rk2⟩ fun H' f => s.sc H' (fzH.trans f)
            have hA3 : upd H2 a (.dK kvs) A = some (.lst acc) := by rw [upd_ne hAa]; exact hA2
            have := s3.join (o := .lst ys) (u := .lst acc) na (notFrz_lst hA3) ⟨acc, upd_same, r.mono (Le.snoc _ _)⟩
            rwa [upd_self hA3] at this
        | ex c S9 => rw [hl] at h; exact h.elim
        | no => rw [hl] at h; exact h.elim
      · exact h.elim
    · exact h.elim
  · exact h.elim
theorem ss_lockLc {tl : TE} {il : IE} {q : Nat} (h : SdE g W (tLockE tl) il) : SdS g W (tLock (tAsg tl (gName q))) (sAsg il (tgName q)) := fun ι ρ S σ H D s e hp => ss_asg h sg_name ι ρ S σ H D s e hp
/-! ### defs: the promise by the plain function; no exception leaves -/
def iSp (g : Gm) (f : Fn) : Sp := fun vs H Q _ => ∃ ι S xs, Sim g ι S H ∧ VRs g ι xs vs ∧ P g ι H (fun _ _ => False) (fun x ι' H' => ∀ v, VR g ι' x v → Q v H') (f xs S)
theorem sd_call {f : Fn} {E : XK} {tA : TA} {iA : IA} (ha : SdA g W0 tA iA) : SdE g W0 (tCall (iSp g f) [] E tA) (iCall f iA) := fun ι ρ S σ H Q s e h =>
  ha ι ρ S σ H _ s e (h.then fun xs ι1 S1 H1 l s1 h1 vs r => ⟨ι1, S1, xs, s1, by rw [List.append_nil]; exact r, h1⟩)
theorem sd_make {c : Str} {C : Addr} {f : Fn} {E : XK} {tA : TA} {iA : IA} (hC : g.γ c = C) (ha : SdA g W0 tA iA) : SdE g W0 (tMake C (iSp g f) [] E tA) (iMake c f iA) := fun ι ρ S σ H Q s e h =>
  ha ι ρ S σ H _ s e (h.then fun xs ι1 S1 H1 l s1 h1 vs r x dx hx hdx hne => by
    subst hC
    have hx' : upd H1 dx (.own x) x = none := by rw [upd_ne (Ne.symm hne)]; exact hx
    have s2 : Sim g ι1 S1 (upd H1 dx (.own x)) := s1.more hdx
    have s3 : Sim g (ι1 ++ [x]) (S1 ++ [.obj c []]) (upd (upd H1 dx (.own x)) x (.ins (g.γ c) dx [])) := s2.alloc hx' ⟨dx, [], upd_same, .nil⟩
    have e0 : Ext ι1 H1 (ι1 ++ [x]) (upd (upd H1 dx (.own x)) x (.ins (g.γ c) dx [])) := (Ext.new hdx).trans (Ext.snoc hx')
    have nr : VR g (ι1 ++ [x]) (.ref S1.length) (.ref x) := s1.newRef
    refine ⟨ι1 ++ [x], _, .ref S1.length :: xs, s3, .cons nr (by rw [List.append_nil]; exact r.mono e0.le), ?_⟩
    refine (h1.thenB e0 fun v ι' S' H' l' s' h' u vu => ?_)
    cases v with
    | non => exact ⟨vu, h' ι' H' (e0.trans l') s' _ (nr.mono l'.le)⟩
    | _ => exact h'.elim)
theorem sd_meth {c : Str} {C : Addr} {m : Str} {f : Fn} {E : XK} {tA : TA} {iA : IA} (hC : g.γ c = C) (ho : SdE g W0 ta ia) (ha : SdA g W0 tA iA) : SdE g W0 (tMeth C m (iSp g f) [] E ta tA) (iMeth c m f ia iA) := fun ι ρ S σ H Q s e h =>
  ho ι ρ S σ H _ s e (h.then fun x ι1 S1 H1 l s1 h1 v vx => by
    subst hC
    try dsimp only at h1
    split at h1
    · rename_i c' fs eo
      split at h1
      · rename_i hc
        obtain ⟨a, dx, vs, rfl, hp, r⟩ := getO_ok s1 vx eo
        obtain ⟨hc1, hc2⟩ := hc
        subst hc1
        exact ⟨a, dx, vs, rfl, hp, fr_lookupN r hc2, ha ι1 ρ S1 σ H1 _ s1 (e.mono l.le) (h1.then fun xs ι2 S2 H2 l2 s2 h2 ws r2 => ⟨ι2, S2, x :: xs, s2, .cons (vx.mono l2.le) (by rw [List.append_nil]; exact r2), h2⟩)⟩
      · exact h1.elim
    · exact h1.elim)
theorem PE.or2 {X : Cx} {e : Expr} {t u : TE} (h : PE X e t) (h' : PE X e u) : PE X e (fun σ H Q => t σ H Q ∨ u σ H Q) := ⟨fun pins s σ H Q I q => q.elim (h.run pins s σ H Q I) (h'.run pins s σ H Q I)⟩
theorem sd_is {c : Str} {io : IE} {t u : TE} {i j : IE} (h1 : SdE g W t i) (h2 : SdE g W u j) : SdE g W (fun σ H Q => t σ H Q ∨ u σ H Q) (iIs c io i j) := fun ι ρ S σ H Q s e h => by
  unfold iIs at h
  split at h
  · split at h
    · split at h
      · exact .inl (h1 ι ρ S σ H Q s e h)
      · exact .inr (h2 ι ρ S σ H Q s e h)
    · exact h.elim
  · exact h.elim
theorem er_start {N : List Str} {xs : List Va} {vs : List V} (r : VRs g ι xs vs) : ER g ι (xs.map some ++ List.replicate (N.length - xs.length) none) (L2.start N vs) := by
  refine ⟨?_, fun k x e => ?_⟩
  · unfold L2.start
    simp only [List.length_append, List.length_map, List.length_replicate, Paired.len r]
  · unfold L2.start
    by_cases hk : k < xs.length
    · rw [List.getElem?_append_left (by rw [List.length_map]; exact hk), List.getElem?_map] at e
      cases ex : xs[k]? with
      | none => rw [ex] at e; cases e
      | some y =>
        rw [ex] at e
        have e' : y = x := by simpa using e
        subst e'
        obtain ⟨v, h1, h2⟩ := Paired.get r ex
        refine ⟨v, ?_, h2⟩
        rw [List.getElem?_append_left (by rw [List.length_map, ← Paired.len r]; exact hk), List.getElem?_map, h1]
        rfl
    · rw [List.getElem?_append_right (by rw [List.length_map]; omega)] at e
      rw [List.getElem?_replicate] at e
      split at e <;> cases e
theorem P_len {p n : Nat} {body : IS} {T : Va → List Addr → Hp → Prop} {W' : Str → Hp → Prop} {xs : List Va} (h : P g ι H W' T (mkFn p n body xs S)) : xs.length = p := by
  unfold mkFn at h
  split at h
  · assumption
  · exact h.elim
theorem iSp_len {p n : Nat} {body : IS} {ps : List Str} (hp : ps.length = p) : ∀ vs H Q E, iSp g (mkFn p n body) vs H Q E → vs.length = ps.length := by
  rintro vs H Q E ⟨ι, S, xs, s, r, h⟩
  rw [hp, ← Paired.len r]
  exact P_len h
/-- a def's body keeps the promise -/
theorem body {N : List Str} {p n : Nat} {b : IS} {t : TS} {vs : List V} {Q : VK} {E : XK} (h : iSp g (mkFn p n b) vs H Q E) (hn : N.length = n) (hb : SdS g W0 t b) : t { nx := fun _ H' => Q .non H', rt := Q } (L2.start N vs) H := by
  obtain ⟨ι, S, xs, s, r, h⟩ := h
  subst hn
  refine hb ι _ S _ H _ s (er_start r) ?_
  unfold mkFn at h
  rw [if_pos (P_len h)] at h
  cases hr : b (xs.map some ++ List.replicate (N.length - xs.length) none) S with
  | nx ρ' S' => rw [hr] at h; exact fun ι' σ' H' l s' e' => h ι' H' l s' _ rfl
  | rt v S' => rw [hr] at h; exact fun ι' v H' l s' r' => h ι' H' l s' _ r'
  | ex c ρ' S' => rw [hr] at h; exact fun ι' σ' H' l s' e' => h ι' H' l s'
  | no => rw [hr] at h; exact h.elim
end
/-- a def that may be called by its name -/
structure Cal (P : Program) (w : World) (K : PySem.W.Frag) (mg : Str → Option Value) (base : Heap) (CX : CXT) (k : Nat) (x : Str) (ps : List Str) (sp : Sp) : Prop where
  ex : ∃ f fd, FnOk P w K mg base CX k f fd ps sp ∧ mg x = some (.ref f) ∧ PySem.W.keepIn K (.ref f) = true ∧ Binds K fd ps []
theorem pe_cal {X : Cx} {k : Nat} {x : Str} {ps : List Str} {sp : Sp} {p pos : Pos} {e : Expr} {es : List Expr} {t : TA} (c : Cal X.prog X.w X.K X.mg X.base CX0 k x ps sp) (hr : Room k X.A) (hg : Gl X x) (ha : PA X (e :: es) t)
    (hdb : (x == ("__debug__" : Str)) = false := by decide) (he : starEach (e :: es) X.env = (false, eval e X.env) :: starEach es X.env := by rfl) (hpl : (backTo pos (starEach es X.env)).any (·.1) = false := by rfl) :
    PE X (.Call (.Name x p) (e :: es) [] pos) (tCall sp [] E0 t) := by
  obtain ⟨f, fd, F, hm, hk, hb⟩ := c.ex
  exact pe_call F hr hg hm hk hb .nil pass0 ha hdb he hpl
theorem pe_cal0 {X : Cx} {k : Nat} {x : Str} {ps : List Str} {sp : Sp} {p pos : Pos} (c : Cal X.prog X.w X.K X.mg X.base CX0 k x ps sp) (hr : Room k X.A) (hg : Gl X x)
    (hdb : (x == ("__debug__" : Str)) = false := by decide) : PE X (.Call (.Name x p) [] [] pos) (tCall sp [] E0 tNil) := by
  obtain ⟨f, fd, F, hm, hk, hb⟩ := c.ex
  exact pe_call0 F hr hg hm hk hb .nil pass0 hdb
/-- a class that may be made -/
structure Mkc (P : Program) (w : World) (K : PySem.W.Frag) (mg : Str → Option Value) (base : Heap) (k : Nat) (x : Str) (C : Addr) (ps : List Str) (sp : Sp) : Prop where
  ex : ∃ f fd, FnOk P w K mg base CX0 k f fd ps sp ∧ Mk K C f ∧ mg x = some (.ref C) ∧ Binds K fd ps []
theorem pe_mkc {X : Cx} {k : Nat} {x : Str} {C : Addr} {ps : List Str} {sp : Sp} {p pos : Pos} {e : Expr} {es : List Expr} {t : TA} (c : Mkc X.prog X.w X.K X.mg X.base k x C ps sp) (hr : Room (k + 1) X.A) (hg : Gl X x) (ha : PA X (e :: es) t)
    (hdb : (x == ("__debug__" : Str)) = false := by decide) (he : starEach (e :: es) X.env = (false, eval e X.env) :: starEach es X.env := by rfl) (hpl : (backTo pos (starEach es X.env)).any (·.1) = false := by rfl) :
    PE X (.Call (.Name x p) (e :: es) [] pos) (tMake C sp [] E0 t) := by
  obtain ⟨f, fd, F, M, hm, hb⟩ := c.ex
  exact pe_make M F hr hg hm hb .nil pass0 ha hdb he hpl
/-- a method of a class -/
structure Mcal (P : Program) (w : World) (K : PySem.W.Frag) (mg : Str → Option Value) (base : Heap) (k : Nat) (C : Addr) (m : Str) (ps : List Str) (sp : Sp) : Prop where
  ex : ∃ f fd, FnOk P w K mg base CX0 k f fd ps sp ∧ Cls K C ∧ Meth K C m f ∧ Binds K fd ps []
theorem pe_mcal {X : Cx} {k : Nat} {C : Addr} {m : Str} {ps : List Str} {sp : Sp} {o : Expr} {ta : TE} {apos pos : Pos} {e : Expr} {es : List Expr} {t : TA} {pl : Sem Bool} (c : Mcal X.prog X.w X.K X.mg X.base k C m ps sp) (hr : Room k X.A) (he : PE X o ta) (ha : PA X (e :: es) t)
    (hst : starEach (e :: es) X.env = (false, eval e X.env) :: starEach es X.env := by rfl) (hpl : (backTo pos (starEach es X.env)).any (·.1) = false := by rfl)
    (ht : eval (.Call (.Attribute o m apos) (e :: es) [] pos) X.env = (do
      let ov ← eval o X.env
      standAt apos.atName
      let (f, first) ← holding [ov] (getMethod ov m pl)
      callWith pos f first (backTo pos (starEach (e :: es) X.env)) (backToKw pos (keywordEach [] X.env))) := by rfl) :
    PE X (.Call (.Attribute o m apos) (e :: es) [] pos) (tMeth C m sp [] E0 ta t) := by
  obtain ⟨f, fd, F, cl, M, hb⟩ := c.ex
  exact pe_meth he cl M F hr hb .nil pass0 ha hst hpl ht
/-- the built-ins' names are nobody else's -/
structure Bt (mg : Str → Option Value) : Prop where
  len : mg "len" = none
  isinstance : mg "isinstance" = none
  int : mg "int" = none
  bool : mg "bool" = none
  list : mg "list" = none
  tuple : mg "tuple" = none
  all : mg "all" = none
  any : mg "any" = none
  sum : mg "sum" = none
  max : mg "max" = none
  min : mg "min" = none
  sorted : mg "sorted" = none
  set : mg "set" = none
  range : mg "range" = none
  enumerate : mg "enumerate" = none
  zip : mg "zip" = none
  abs : mg "abs" = none
  str : mg "str" = none
end IL

end
section
set_option linter.all false
set_option maxRecDepth 100000
namespace IL
open PySem L2
/-! ### the end of every law -/
def gam (K : PySem.W.Frag) (x : Str) : Addr := match PySem.W.nsIn K mainGlobals x with
  | some (some (.ref a)) => a
  | _ => 0
theorem gam_of {K : PySem.W.Frag} {x : Str} {a : Addr} (h : PySem.W.nsIn K mainGlobals x = some (some (.ref a))) : gam K x = a := by unfold gam; rw [h]
/-- the promise of a law's def -/
def lawSp (f : Fn) (K : PySem.W.Frag) : Sp := fun vs H Q E => ∃ (a0 : Addr) (ns : List Int), iSp ⟨gam K, K, a0, ns⟩ f vs H Q E
theorem fnok_ex {P : Program} {w : World} {K : PySem.W.Frag} {mg : Str → Option Value} {base : Heap} {CX : CXT} {k : Nat} {f : Addr} {fd : FuncData} {ps : List Str} {i : Fn}
    (h : ∀ (a0 : Addr) (ns : List Int), FnOk P w K mg base CX k f fd ps (iSp ⟨gam K, K, a0, ns⟩ i)) : FnOk P w K mg base CX k f fd ps (lawSp i K) :=
  ⟨fun vs H Q E ⟨a0, ns, q⟩ => (h a0 ns).len vs H Q E q, fun A outer s H args us vs Q E hr he hb hv ⟨a0, ns, q⟩ => (h a0 ns).run A outer s H args us vs Q E hr he hb hv q⟩
theorem sim_start {K : PySem.W.Frag} {H : Hp} {a : Addr} {ns : List Int} (hO : Only H) (hS : SqL K H a (ns.map V.int)) : Sim ⟨gam K, K, a, ns⟩ [] [] H := by
  refine ⟨List.nodup_nil, rfl, fun n o a e => by simp at e, fun H' f => ?_⟩
  rcases hS with r | r
  · rcases r with r | ⟨o, r⟩
    · rcases hO a with z | ⟨o, xs, z⟩
      · rw [z] at r; cases r
      · rw [z] at r; cases r
    · exact .inl (.inr ⟨o, f a o _ r⟩)
  · exact .inr r
theorem law_sp {f : Fn} {K : PySem.W.Frag} {H : Hp} {a : Addr} {ns : List Int} (ht : ∃ S', f [.scr ns] [] = .ok (.bl true) S') (hO : Only H) (hS : SqL K H a (ns.map V.int)) : lawSp f K [.ref a] H (fun v _ => v = .bl true) fun _ _ _ => False := by
  obtain ⟨S', h⟩ := ht
  refine ⟨a, ns, [], [], [.scr ns], sim_start hO hS, .cons ⟨rfl, rfl⟩ .nil, ?_⟩
  rw [h]
  exact fun ι' H' _ _ v r => r
end IL

end
section
set_option linter.all false
namespace IL
open PySem L2
/-- xs.count(y), plain values -/
def mCnt : Va → List Va → Sto → R Va
  | x, [y], S => match getL S x with
    | some xs => if flatA y = true ∧ xs.all flatA = true then .ok (.int (xs.countP fun z => eqA z y : Nat)) S else .no
    | none => .no
  | _, _, _ => .no
end IL

end
section
set_option Elab.async false
set_option linter.all false
set_option maxRecDepth 100000
namespace L2
open PySem PySem.Spec PyProof.Rows
section
variable {X : Cx}
def rCntF (K : PySem.W.Frag) : V → List V → Hp → VK → Prop := fun x xs H Q => ∃ (a : Addr) (ys : List V) (y : V), x = V.ref a ∧ xs = [y] ∧ SqL K H a ys ∧ flatV y = true ∧ ys.all flatV = true ∧ Q (.int (ys.countP fun z => eqV z y : Nat)) H
theorem eqU_cnt {y : V} : ∀ {ys : List V} {us : List Value}, Vals ys us → ys.all flatV = true → us.countP (eqU y) = ys.countP fun z => eqV z y
  | _, _, .nil, _ => rfl
  | z :: zs, u :: us, .cons r t, h => by
    rw [List.all_cons, Bool.and_eq_true] at h
    rw [List.countP_cons, List.countP_cons, eqU_cnt t h.2, eqU_of r h.1]
theorem mt_COUNT : MtR X "list.count" (rCntF X.K) := by
  intro pins s σ H x xs v us Q I rx rxs h
  obtain ⟨a, ys, y, rfl, rfl, hs, fy, fys, q⟩ := h
  cases rx
  cases rxs with
  | cons ry rt =>
    rename_i uy ut
    cases rt
    obtain ⟨its, rv, ⟨⟨cls, dd, data, sl⟩, n, ho, hc, hdn, hd⟩, hlen⟩ := I.list hs
    simp only at hc hd
    subst hc hd
    refine call_meets PySem.F.slot_list_count ⟨_, ho, rfl⟩ PySem.F.entry_list_count (PySem.F.args_list_count_2 _ _)
      (SeqAt.list_countAt a its.toArray n dd sl uy (eqU y)) ⟨ho, fun u' hu' => mem_eqAt ry fy rv fys u' (by simpa using hu'), ?_⟩
    have ec : its.toArray.toList.countP (eqU y) = ys.countP fun z => eqV z y := eqU_cnt rv fys
    refine ⟨.int (ys.countP fun z => eqV z y : Nat), H, I.tok _, ⟨s.toks, ?_⟩, q⟩
    show Value.int ((its.toArray.toList.countP (eqU y) : Nat) : Int) s.toks = _
    rw [ec]
end
end L2
namespace IL
open PySem L2
section
variable {g : Gm} {W : WH}
theorem cnt_vr {ι : List Addr} {y : Va} {u : V} (vy : VR g ι y u) (fy : flatA y = true) : ∀ {xs : List Va} {vs : List V}, VRs g ι xs vs → xs.all flatA = true → vs.countP (fun z => eqV z u) = xs.countP fun z => eqA z y
  | _, _, .nil, _ => rfl
  | x :: xs, v :: vs, .cons r t, h => by
    rw [List.all_cons, Bool.and_eq_true] at h
    rw [List.countP_cons, List.countP_cons, cnt_vr vy fy t h.2, eq_vr r vy h.1 fy]
theorem sm_count : SdM g W (rCntF g.K) mCnt := fun ι S H x v xs vs σ Q s vx r h1 => by
  unfold mCnt at h1
  split at h1
  · rename_i y
    split at h1
    · rename_i zs ez
      split at h1
      · rename_i hf
        obtain ⟨u, rfl, vy⟩ := vrs1 r
        obtain ⟨a, ws, rfl, hq, rp⟩ := getL_ok s vx ez
        refine ⟨a, ws, u, rfl, rfl, hq, flat_vr vy hf.1, flats_vr rp hf.2, h1 _ _ (Ext.refl _ _) s _ ?_⟩
        rw [cnt_vr vy hf.1 rp hf.2]
        rfl
      · exact h1.elim
    · exact h1.elim
  · exact h1.elim
end
end IL
namespace IL
open PySem L2
theorem cls_all {p : Str → Prop} (h1 : p "Answer") (h2 : p "Shared") (h3 : p "Crowd") (h4 : p "Even") (h5 : p "Chain") (h6 : p "Side") : ∀ c ∈ clsL, p c := by
  intro c hc
  unfold clsL at hc
  rcases List.mem_cons.mp hc with rfl | hc
  · exact h1
  rcases List.mem_cons.mp hc with rfl | hc
  · exact h2
  rcases List.mem_cons.mp hc with rfl | hc
  · exact h3
  rcases List.mem_cons.mp hc with rfl | hc
  · exact h4
  rcases List.mem_cons.mp hc with rfl | hc
  · exact h5
  rcases List.mem_cons.mp hc with rfl | hc
  · exact h6
  · cases hc
theorem sub_of {K : PySem.W.Frag} {x y : Value} {b b' : Bool} (h : PySem.W.kitOne K x y = some b) (e : b' = b) : PySem.W.kitOne K x y = some b' := e ▸ h
theorem kit_sub {K : PySem.W.Frag} {C D : Addr} {b : Bool} {q : _} (hq : PySem.W.clsIn K D = some q) (ht : PySem.W.typeIn K (.ref D) = some (.type "type")) (hr : PySem.W.subIn K (.ref D) (.ref D) = some true) (hs : PySem.W.subIn K (.ref C) (.ref D) = some b) : PySem.W.kitOne K (.ref C) (.ref D) = some b := by
  unfold PySem.W.kitOne
  split
  · rename_i h
    have e := beq_iff_eq.mp h
    cases e
    rw [← hs, hr]
  · unfold PySem.W.kitCls
    simp only [hq, ht, Option.isSome_some, beq_self_eq_true, Bool.and_self, if_true]
    exact hs
end IL

end
section
set_option linter.all false
set_option maxRecDepth 100000
namespace IL
open PySem L2
/-- 0 thing, 1 least -/
noncomputable def i_is_number : Fn := mkFn 2 2 (sRet (iAndV (iCB fIsi (iCons (iVar 0) (iCons (iC (.ty "int")) iNil))) (iAndV (iNotV (iCB fIsi (iCons (iVar 0) (iCons (iC (.ty "bool")) iNil)))) (iOp fGe (iVar 0) (iVar 1)))))

/-- 0 thing, 1 people, 2 one -/
noncomputable def i_is_task : Fn := mkFn 2 3 (sSeq (sIf (iOr (iNot (iB (iCB fIsi (iCons (iVar 0) (iCons (iC (.ty "tuple")) iNil))))) (iOr (iB (iOp fNe (iCB fLen (iCons (iVar 0) iNil)) (iC (.int 2)))) (iNot (iB (iCB fAll (iCons (iLc (itTup (iVar 0)) (tgName 2) iYes (iCall i_is_number (iCons (iVar 2) (iCons (iC (.int 0)) iNil))) [2]) iNil)))))) (sRet (iC (.bl false))) sNext)
  (sRet (iChain fLt fLt (iOp fIx (iVar 0) (iC (.int 0))) (iOp fIx (iVar 0) (iC (.int 1))) (iVar 1))))

/-- 0 people, 1 tasks, 2 task -/
noncomputable def i_check_tasks : Fn := mkFn 2 3 (sSeq (sIf (iOr (iNot (iB (iCall i_is_number (iCons (iVar 0) (iCons (iC (.int 1)) iNil))))) (iB (iOp fGt (iVar 0) (iC (.int 60))))) (sRaise "BadPeople") sNext)
  (sIf (iOr (iNot (iB (iCB fIsi (iCons (iVar 1) (iCons (iC (.ty "list")) iNil))))) (iNot (iB (iCB fAll (iCons (iLc (itList (iVar 1)) (tgName 2) iYes (iCall i_is_task (iCons (iVar 2) (iCons (iVar 0) iNil))) [2]) iNil))))) (sRaise "BadTasks") sNext))

/-- 0 people, 1 limits, 2 one -/
noncomputable def i_check_limits : Fn := mkFn 2 3 (sIf (iOr (iNot (iB (iCB fIsi (iCons (iVar 1) (iCons (iC (.ty "list")) iNil))))) (iOr (iB (iOp fNe (iCB fLen (iCons (iVar 1) iNil)) (iVar 0))) (iNot (iB (iCB fAll (iCons (iLc (itList (iVar 1)) (tgName 2) iYes (iCall i_is_number (iCons (iVar 2) (iCons (iC (.int 0)) iNil))) [2]) iNil)))))) (sRaise "BadLimits") sNext)

/-- 0 tasks, 1 sharing, 2 one, 3 task, 4 who -/
noncomputable def i_is_sharing : Fn := mkFn 2 5 (sSeq (sIf (iOr (iNot (iB (iCB fIsi (iCons (iVar 1) (iCons (iC (.ty "list")) iNil))))) (iOr (iB (iOp fNe (iCB fLen (iCons (iVar 1) iNil)) (iCB fLen (iCons (iVar 0) iNil)))) (iNot (iB (iCB fAll (iCons (iLc (itList (iVar 1)) (tgName 2) iYes (iCall i_is_number (iCons (iVar 2) (iCons (iC (.int 0)) iNil))) [2]) iNil)))))) (sRet (iC (.bl false))) sNext)
  (sRet (iCB fAll (iCons (iLc (itZip (iVar 0) (iVar 1)) (tgTupN 2 [(tgName 3), (tgName 4)]) iYes (iOp (fIn false) (iVar 4) (iVar 3)) [3, 4]) iNil))))

/-- 0 tasks, 1 sharing -/
noncomputable def i_check_sharing : Fn := mkFn 2 2 (sIf (iNot (iB (iCall i_is_sharing (iCons (iVar 0) (iCons (iVar 1) iNil))))) (sRaise "BadSharing") sNext)

/-- 0 people, 1 sharing, 2 found, 3 who -/
noncomputable def i_loads_of : Fn := mkFn 2 4 (sSeq (sAsg (iOp fMul (iLst (iCons (iC (.int 0)) iNil)) (iVar 0)) (tgName 2))
  (sSeq (sFor (itList (iVar 1)) (tgName 3) (sAugS (iVar 2) (iVar 3) (iC (.int 1))))
  (sRet (iVar 2))))

/-- 0 people, 1 tasks, 2 sharing -/
noncomputable def i_loads : Fn := mkFn 3 3 (sSeq (sExpr (iCall i_check_tasks (iCons (iVar 0) (iCons (iVar 1) iNil))))
  (sSeq (sExpr (iCall i_check_sharing (iCons (iVar 1) (iCons (iVar 2) iNil))))
  (sRet (iCall i_loads_of (iCons (iVar 0) (iCons (iVar 2) iNil))))))

/-- 0 task, 1 who -/
noncomputable def i_second_of : Fn := mkFn 2 2 (sRet (iOp fSub (iOp fAdd (iOp fIx (iVar 0) (iC (.int 0))) (iOp fIx (iVar 0) (iC (.int 1)))) (iVar 1)))

/-- 0 tasks, 1 some, 2 task -/
noncomputable def i_among : Fn := mkFn 2 3 (sRet (iCB fLen (iCons (iLc (itList (iVar 0)) (tgName 2) (iAnd (iB (iOp (fIn false) (iOp fIx (iVar 2) (iC (.int 0))) (iVar 1))) (iB (iOp (fIn false) (iOp fIx (iVar 2) (iC (.int 1))) (iVar 1)))) (iVar 2) [2]) iNil)))

/-- 0 some, 1 people, 2 one -/
noncomputable def i_are_people : Fn := mkFn 2 3 (sRet (iAndV (iOp fEq (iVar 0) (iCB fSortedSet (iCons (iVar 0) iNil))) (iCB fAll (iCons (iLc (itList (iVar 0)) (tgName 2) iYes (iChain fLe fLt (iC (.int 0)) (iVar 2) (iVar 1)) [2]) iNil))))

/-- 0 self, 1 sharing -/
noncomputable def i_Shared_init : Fn := mkFn 2 2 (sFldSet (iVar 0) "sharing" (iCB fList (iCons (iVar 1) iNil)))

/-- 0 self, 1 people, 2 tasks, 3 limits, 4 load, 5 limit -/
noncomputable def i_Shared_shows : Fn := mkFn 4 6 (sSeq (sIf (iNot (iB (iCall i_is_sharing (iCons (iVar 2) (iCons (iFld (iVar 0) "sharing") iNil))))) (sRet (iC (.bl false))) sNext)
  (sRet (iCB fAll (iCons (iLc (itZip (iCall i_loads_of (iCons (iVar 1) (iCons (iFld (iVar 0) "sharing") iNil))) (iVar 3)) (tgTupN 2 [(tgName 4), (tgName 5)]) iYes (iOp fLe (iVar 4) (iVar 5)) [4, 5]) iNil))))

/-- 0 self, 1 some -/
noncomputable def i_Crowd_init : Fn := mkFn 2 2 (sFldSet (iVar 0) "some" (iCB fList (iCons (iVar 1) iNil)))

/-- 0 self, 1 people, 2 tasks, 3 limits, 4 one -/
noncomputable def i_Crowd_shows : Fn := mkFn 4 5 (sSeq (sIf (iNot (iB (iCall i_are_people (iCons (iFld (iVar 0) "some") (iCons (iVar 1) iNil))))) (sRet (iC (.bl false))) sNext)
  (sRet (iOp fGt (iCall i_among (iCons (iVar 2) (iCons (iFld (iVar 0) "some") iNil))) (iCB fSum (iCons (iLc (itList (iFld (iVar 0) "some")) (tgName 4) iYes (iOp fIx (iVar 3) (iVar 4)) [4]) iNil)))))

/-- 0 self, 1 sharing, 2 some -/
noncomputable def i_Even_init : Fn := mkFn 3 3 (sSeq (sFldSet (iVar 0) "sharing" (iCB fList (iCons (iVar 1) iNil)))
  (sFldSet (iVar 0) "some" (iCB fList (iCons (iVar 2) iNil))))

/-- 0 self, 1 people, 2 tasks, 3 most -/
noncomputable def i_Even_shows : Fn := mkFn 3 4 (sSeq (sIf (iOr (iNot (iB (iCall i_is_sharing (iCons (iVar 2) (iCons (iFld (iVar 0) "sharing") iNil))))) (iNot (iB (iCall i_are_people (iCons (iFld (iVar 0) "some") (iCons (iVar 1) iNil)))))) (sRet (iC (.bl false))) sNext)
  (sSeq (sIf (iB (iOp fEq (iVar 2) (iLst iNil))) (sRet (iOp fEq (iFld (iVar 0) "some") (iLst iNil))) sNext)
  (sSeq (sAsg (iCB fMax (iCons (iCall i_loads_of (iCons (iVar 1) (iCons (iFld (iVar 0) "sharing") iNil))) iNil)) (tgName 3))
  (sRet (iOp fGt (iCall i_among (iCons (iVar 2) (iCons (iFld (iVar 0) "some") iNil))) (iOp fMul (iOp fSub (iVar 3) (iC (.int 1))) (iCB fLen (iCons (iFld (iVar 0) "some") iNil))))))))

/-- 0 self, 1 tasks -/
noncomputable def i_Chain_init : Fn := mkFn 2 2 (sFldSet (iVar 0) "tasks" (iCB fList (iCons (iVar 1) iNil)))

/-- 0 self, 1 people, 2 tasks, 3 sharing, 4 one, 5 other, 6 came, 7 at -/
noncomputable def i_Chain_shows : Fn := mkFn 6 8 (sSeq (sAsg (iLst (iCons (iVar 4) iNil)) (tgName 6))
  (sSeq (sFor (itList (iFld (iVar 0) "tasks")) (tgName 7) (sSeq (sIf (iOr (iNot (iB (iChain fLe fLt (iC (.int 0)) (iVar 7) (iCB fLen (iCons (iVar 2) iNil))))) (iB (iOp fNe (iOp fIx (iVar 3) (iVar 7)) (iOp fIx (iVar 6) (iUn fNeg (iC (.int 1))))))) (sRet (iC (.bl false))) sNext)
  (sExpr (iBM mAppend (iVar 6) (iCons (iCall i_second_of (iCons (iOp fIx (iVar 2) (iVar 7)) (iCons (iOp fIx (iVar 6) (iUn fNeg (iC (.int 1)))) iNil))) iNil)))))
  (sRet (iAndV (iOp fEq (iOp fIx (iVar 6) (iUn fNeg (iC (.int 1)))) (iVar 5)) (iOp fEq (iCB fLenSet (iCons (iVar 6) iNil)) (iCB fLen (iCons (iVar 6) iNil)))))))

/-- 0 self, 1 some -/
noncomputable def i_Side_init : Fn := mkFn 2 2 (sFldSet (iVar 0) "some" (iCB fList (iCons (iVar 1) iNil)))

/-- 0 self, 1 people, 2 tasks, 3 sharing, 4 one, 5 other, 6 out, 7 at, 8 who -/
noncomputable def i_Side_shows : Fn := mkFn 6 9 (sSeq (sIf (iOr (iNot (iB (iCall i_are_people (iCons (iFld (iVar 0) "some") (iCons (iVar 1) iNil))))) (iOr (iB (iOp (fIn true) (iVar 4) (iFld (iVar 0) "some"))) (iB (iOp (fIn false) (iVar 5) (iFld (iVar 0) "some"))))) (sRet (iC (.bl false))) sNext)
  (sSeq (sAsg (iLc (itEnum (iVar 3)) (tgTupN 2 [(tgName 7), (tgName 8)]) (iAnd (iB (iOp (fIn false) (iVar 8) (iFld (iVar 0) "some"))) (iB (iOp (fIn true) (iCall i_second_of (iCons (iOp fIx (iVar 2) (iVar 7)) (iCons (iVar 8) iNil))) (iFld (iVar 0) "some")))) (iVar 7) [7, 8]) (tgName 6))
  (sRet (iOp fEq (iVar 6) (iLst iNil)))))

/-- 0 tasks, 1 sharing, 2 begins, 3 came, 4 one, 5 waiting, 6 at, 7 here, 8 task, 9 who -/
noncomputable def i_came_from : Fn := mkFn 3 10 (sSeq (sAsg iDNew (tgName 3))
  (sSeq (sFor (itList (iVar 2)) (tgName 4) (sDSet (iVar 3) (iVar 4) (iUn fNeg (iC (.int 1)))))
  (sSeq (sAsg (iCB fList (iCons (iVar 2) iNil)) (tgName 5))
  (sSeq (sAsg (iC (.int 0)) (tgName 6))
  (sSeq (sWhile (iB (iOp fLt (iVar 6) (iCB fLen (iCons (iVar 5) iNil)))) (sSeq (sAsg (iOp fIx (iVar 5) (iVar 6)) (tgName 7))
  (sSeq (sAug 6 (iC (.int 1)))
  (sFor (itEnum (iVar 1)) (tgTupN 2 [(tgName 8), (tgName 9)]) (sIf (iAnd (iB (iOp fEq (iVar 9) (iVar 7))) (iB (iDIn true (iCall i_second_of (iCons (iOp fIx (iVar 0) (iVar 8)) (iCons (iVar 7) iNil))) (iVar 3)))) (sSeq (sDSet (iVar 3) (iCall i_second_of (iCons (iOp fIx (iVar 0) (iVar 8)) (iCons (iVar 7) iNil))) (iVar 8))
  (sExpr (iBM mAppend (iVar 5) (iCons (iCall i_second_of (iCons (iOp fIx (iVar 0) (iVar 8)) (iCons (iVar 7) iNil))) iNil)))) sNext)))))
  (sRet (iVar 3)))))))

/-- 0 tasks, 1 came, 2 person, 3 found -/
noncomputable def i_chain_to : Fn := mkFn 3 4 (sSeq (sAsg (iLst iNil) (tgName 3))
  (sSeq (sWhile (iB (iOp fGe (iDGet (iVar 1) (iVar 2)) (iC (.int 0)))) (sSeq (sExpr (iBM mAppend (iVar 3) (iCons (iDGet (iVar 1) (iVar 2)) iNil)))
  (sAsg (iCall i_second_of (iCons (iOp fIx (iVar 0) (iDGet (iVar 1) (iVar 2))) (iCons (iVar 2) iNil))) (tgName 2))))
  (sRet (iRev (iVar 3)))))

/-- 0 people, 1 tasks, 2 limits, 3 sharing, 4 loads, 5 task, 6 came, 7 free, 8 chain, 9 first, 10 at, 11 one -/
noncomputable def i_share : Fn := mkFn 3 12 (sSeq (sAsg (iLst iNil) (tgName 3))
  (sSeq (sAsg (iOp fMul (iLst (iCons (iC (.int 0)) iNil)) (iVar 0)) (tgName 4))
  (sSeq (sFor (itList (iVar 1)) (tgName 5) (sSeq (sAsg (iCall i_came_from (iCons (iVar 1) (iCons (iVar 3) (iCons (iCB fList (iCons (iVar 5) iNil)) iNil)))) (tgName 6))
  (sSeq (sAsg (iLcK 6 (tgName 11) (iB (iOp fLt (iOp fIx (iVar 4) (iVar 11)) (iOp fIx (iVar 2) (iVar 11)))) (iVar 11) [11]) (tgName 7))
  (sSeq (sIf (iB (iOp fEq (iVar 7) (iLst iNil))) (sRet (IL.iTup (iCons (iVar 3) (iCons (iCB fSortedD (iCons (iVar 6) iNil)) iNil)))) sNext)
  (sSeq (sAsg (iCall i_chain_to (iCons (iVar 1) (iCons (iVar 6) (iCons (iOp fIx (iVar 7) (iC (.int 0))) iNil)))) (tgName 8))
  (sSeq (sAsg (iIf (iB (iOp fNe (iVar 8) (iLst iNil))) (iOp fIx (iVar 3) (iOp fIx (iVar 8) (iC (.int 0)))) (iOp fIx (iVar 7) (iC (.int 0)))) (tgName 9))
  (sSeq (sFor (itList (iVar 8)) (tgName 10) (sAsg (iCall i_second_of (iCons (iOp fIx (iVar 1) (iVar 10)) (iCons (iOp fIx (iVar 3) (iVar 10)) iNil))) (tgSub (iVar 3) (iVar 10))))
  (sSeq (sExpr (iBM mAppend (iVar 3) (iCons (iVar 9) iNil)))
  (sAugS (iVar 4) (iOp fIx (iVar 7) (iC (.int 0))) (iC (.int 1)))))))))))
  (sRet (IL.iTup (iCons (iVar 3) (iCons (iLst iNil) iNil)))))))

/-- 0 people, 1 tasks, 2 limits, 3 sharing, 4 some -/
noncomputable def i_shared : Fn := mkFn 3 5 (sSeq (sExpr (iCall i_check_tasks (iCons (iVar 0) (iCons (iVar 1) iNil))))
  (sSeq (sExpr (iCall i_check_limits (iCons (iVar 0) (iCons (iVar 2) iNil))))
  (sSeq (sAsg (iCall i_share (iCons (iVar 0) (iCons (iVar 1) (iCons (iVar 2) iNil)))) (tgTupN 2 [(tgName 3), (tgName 4)]))
  (sRet (iIf (iB (iOp fEq (iVar 4) (iLst iNil))) (iMake "Shared" i_Shared_init (iCons (iVar 3) iNil)) (iMake "Crowd" i_Crowd_init (iCons (iVar 4) iNil)))))))

/-- 0 people, 1 tasks, 2 most, 3 crowd, 4 sharing, 5 some -/
noncomputable def i_evenest : Fn := mkFn 2 6 (sSeq (sExpr (iCall i_check_tasks (iCons (iVar 0) (iCons (iVar 1) iNil))))
  (sSeq (sAsg (iC (.int 0)) (tgName 2))
  (sSeq (sAsg (iLst iNil) (tgName 3))
  (sSeq (sAsg (iCall i_share (iCons (iVar 0) (iCons (iVar 1) (iCons (iOp fMul (iLst (iCons (iC (.int 0)) iNil)) (iVar 0)) iNil)))) (tgTupN 2 [(tgName 4), (tgName 5)]))
  (sSeq (sWhile (iB (iOp fNe (iVar 5) (iLst iNil))) (sSeq (sAsg (iVar 5) (tgName 3))
  (sSeq (sAug 2 (iC (.int 1)))
  (sAsg (iCall i_share (iCons (iVar 0) (iCons (iVar 1) (iCons (iOp fMul (iLst (iCons (iVar 2) iNil)) (iVar 0)) iNil)))) (tgTupN 2 [(tgName 4), (tgName 5)])))))
  (sRet (iMake "Even" i_Even_init (iCons (iVar 4) (iCons (iVar 3) iNil)))))))))

/-- 0 people, 1 tasks, 2 sharing, 3 one, 4 other, 5 person, 6 came -/
noncomputable def i_passed : Fn := mkFn 5 7 (sSeq (sExpr (iCall i_check_tasks (iCons (iVar 0) (iCons (iVar 1) iNil))))
  (sSeq (sExpr (iCall i_check_sharing (iCons (iVar 1) (iCons (iVar 2) iNil))))
  (sSeq (sFor (itTup (IL.iTup (iCons (iVar 3) (iCons (iVar 4) iNil)))) (tgName 5) (sIf (iOr (iNot (iB (iCall i_is_number (iCons (iVar 5) (iCons (iC (.int 0)) iNil))))) (iB (iOp fGe (iVar 5) (iVar 0)))) (sRaise "BadPerson") sNext))
  (sSeq (sIf (iB (iOp fEq (iVar 3) (iVar 4))) (sRaise "BadPerson") sNext)
  (sSeq (sAsg (iCall i_came_from (iCons (iVar 1) (iCons (iVar 2) (iCons (iLst (iCons (iVar 3) iNil)) iNil)))) (tgName 6))
  (sSeq (sIf (iB (iDIn true (iVar 4) (iVar 6))) (sRet (iMake "Side" i_Side_init (iCons (iCB fSortedD (iCons (iVar 6) iNil)) iNil))) sNext)
  (sRet (iMake "Chain" i_Chain_init (iCons (iCall i_chain_to (iCons (iVar 1) (iCons (iVar 6) (iCons (iVar 4) iNil)))) iNil)))))))))

/-- 0 person, 1 giving, 2 another, 3 found, 4 way, 5 here, 6 met, 7 at, 8 first -/
noncomputable def i_rings_from : Fn := mkFn 3 9 (sSeq (sAsg (iLst iNil) (tgName 3))
  (sSeq (sAsg (iLst iNil) (tgName 4))
  (sSeq (sAsg (iVar 0) (tgName 5))
  (sSeq (sAsg (iLst (iCons (iVar 0) iNil)) (tgName 6))
  (sSeq (sWhile (iOr (iB (iOp fNe (iOp fIx (iVar 1) (iVar 5)) (iLst iNil))) (iB (iOp fNe (iVar 4) (iLst iNil)))) (sSeq (sAsg (iBM mPop (iOp fIx (iVar 1) (iVar 5)) iNil) (tgName 7))
  (sSeq (sExpr (iBM mAppend (iVar 4) (iCons (iVar 7) iNil)))
  (sSeq (sAsg (iOp fIx (iVar 2) (iVar 7)) (tgName 5))
  (sIf (iB (iOp (fIn false) (iVar 5) (iVar 6))) (sSeq (sAsg (iBM mIndex (iVar 6) (iCons (iVar 5) iNil)) (tgName 8))
  (sSeq (sExpr (iBM mAppend (iVar 3) (iCons (iSl (iVar 4) (iPart (iVar 8)) iNoPart) iNil)))
  (sSeq (sAsg (iSl (iVar 4) iNoPart (iPart (iVar 8))) (tgName 4))
  (sAsg (iSl (iVar 6) iNoPart (iPart (iOp fAdd (iVar 8) (iC (.int 1))))) (tgName 6))))) (sExpr (iBM mAppend (iVar 6) (iCons (iVar 5) iNil))))))))
  (sRet (iVar 3)))))))

/-- 0 people, 1 tasks, 2 sharing, 3 another, 4 giving, 5 at, 6 who, 7 found, 8 person -/
noncomputable def i_rings : Fn := mkFn 4 9 (sSeq (sExpr (iCall i_check_tasks (iCons (iVar 0) (iCons (iVar 1) iNil))))
  (sSeq (sExpr (iCall i_check_sharing (iCons (iVar 1) (iCons (iVar 2) iNil))))
  (sSeq (sExpr (iCall i_check_sharing (iCons (iVar 1) (iCons (iVar 3) iNil))))
  (sSeq (sIf (iB (iOp fNe (iCall i_loads_of (iCons (iVar 0) (iCons (iVar 2) iNil))) (iCall i_loads_of (iCons (iVar 0) (iCons (iVar 3) iNil))))) (sRaise "Unlike") sNext)
  (sSeq (sAsg (iLc (itRng (iVar 0)) (tgName 8) iYes (iLst iNil) [8]) (tgName 4))
  (sSeq (sFor (itEnum (iVar 2)) (tgTupN 2 [(tgName 5), (tgName 6)]) (sIf (iB (iOp fNe (iOp fIx (iVar 3) (iVar 5)) (iVar 6))) (sExpr (iBM mAppend (iOp fIx (iVar 4) (iVar 6)) (iCons (iVar 5) iNil))) sNext))
  (sSeq (sAsg (iLst iNil) (tgName 7))
  (sSeq (sFor (itRng (iVar 0)) (tgName 8) (sWhile (iB (iOp fNe (iOp fIx (iVar 4) (iVar 8)) (iLst iNil))) (sExpr (iBM mExtend (iVar 7) (iCons (iCall i_rings_from (iCons (iVar 8) (iCons (iVar 4) (iCons (iVar 3) iNil)))) iNil)))))
  (sRet (iVar 7))))))))))

end IL

end
section
set_option linter.all false
set_option maxRecDepth 100000
namespace IL
open PySem L2
/-- 0 _law_cell, 1 _law_at, 2 _law_whole, 3 _law_mixed, 4 _law_more -/
noncomputable def i__law_number : Fn := mkFn 3 5 (sSeq (sIf (iB (iOp fGe (iVar 0) (iOp fPow (iC (.int 10)) (iC (.int 18))))) (sRet (iVar 0)) sNext)
  (sSeq (sAsg (iOp fMod (iOp fAdd (iOp fMul (iOp fAdd (iVar 0) (iOp fMul (iC (.int 977)) (iVar 1))) (iC (.int 48271))) (iVar 2)) (iC (.int 2147483647))) (tgName 3))
  (sSeq (sAsg (iOp fMul (iOp fMul (iVar 3) (iOp fAdd (iOp fAdd (iVar 3) (iOp fMul (iC (.int 31)) (iVar 1))) (iC (.int 7)))) (iOp fAdd (iOp fAdd (iVar 3) (iVar 0)) (iC (.int 5)))) (tgName 4))
  (sRet (iOp fDiv (iOp fMul (iVar 4) (iOp fAdd (iVar 4) (iC (.int 48271)))) (iC (.int 1009)))))))

/-- 0 _law_script, 1 _law_cells, 2 _law_whole, 3 _law_people, 4 _law_found, 5 _law_at, 6 _law_cell, 7 _law_number_here, 8 _law_one, 9 _law_other -/
noncomputable def i__law_tasks : Fn := mkFn 1 10 (sSeq (sAsg (iSl (iVar 0) iNoPart (iPart (iC (.int 63)))) (tgName 1))
  (sSeq (sAsg (iCB fSum (iCons (iVar 1) iNil)) (tgName 2))
  (sSeq (sAsg (iOp fIx (IL.iTup (iCons (iC (.int 2)) (iCons (iC (.int 3)) (iCons (iC (.int 5)) (iCons (iC (.int 9)) (iCons (iC (.int 20)) (iCons (iC (.int 60)) (iCons (iC (.int 4)) (iCons (iCB fMax (iCons (iC (.int 2)) (iCons (iOp fDiv (iOp fMul (iCB fLen (iCons (iVar 1) iNil)) (iC (.int 2))) (iC (.int 3))) iNil))) iNil))))))))) (iOp fMod (iOp fDiv (iVar 2) (iC (.int 3))) (iC (.int 8)))) (tgName 3))
  (sSeq (sAsg (iLst iNil) (tgName 4))
  (sSeq (sFor (itEnum (iVar 1)) (tgTupN 2 [(tgName 5), (tgName 6)]) (sSeq (sAsg (iCall i__law_number (iCons (iVar 6) (iCons (iVar 5) (iCons (iVar 2) iNil)))) (tgName 7))
  (sSeq (sAsg (iOp fMod (iVar 7) (iVar 3)) (tgName 8))
  (sSeq (sIf (iB (iOp fEq (iOp fMod (iOp fDiv (iVar 2) (iC (.int 24))) (iC (.int 6))) (iC (.int 1)))) (sAsg (iOp fMod (iOp fMod (iVar 7) (iC (.int 3))) (iVar 3)) (tgName 8)) sNext)
  (sSeq (sAsg (iOp fMod (iOp fAdd (iOp fAdd (iVar 8) (iC (.int 1))) (iOp fMod (iOp fDiv (iVar 7) (iVar 3)) (iOp fSub (iVar 3) (iC (.int 1))))) (iVar 3)) (tgName 9))
  (sSeq (sIf (iB (iOp fEq (iOp fMod (iOp fDiv (iVar 2) (iC (.int 24))) (iC (.int 6))) (iC (.int 2)))) (sAsg (iOp fMod (iOp fAdd (iVar 8) (iC (.int 1))) (iVar 3)) (tgName 9)) sNext)
  (sSeq (sIf (iB (iOp fEq (iOp fMod (iOp fDiv (iVar 2) (iC (.int 24))) (iC (.int 6))) (iC (.int 3)))) (sPar 8 9 (iCons (iOp fMod (iVar 5) (iVar 3)) (iCons (iOp fMod (iOp fAdd (iVar 5) (iC (.int 1))) (iVar 3)) iNil))) sNext)
  (sExpr (iBM mAppend (iVar 4) (iCons (IL.iTup (iCons (iCB fMin (iCons (iVar 8) (iCons (iVar 9) iNil))) (iCons (iCB fMax (iCons (iVar 8) (iCons (iVar 9) iNil))) iNil))) iNil))))))))))
  (sRet (IL.iTup (iCons (iVar 3) (iCons (iVar 4) iNil)))))))))

/-- 0 _law_script, 1 _law_tasks_here, 2 _law_by, 3 _law_cells, 4 _law_whole, 5 _law_found, 6 _law_at, 7 _law_task, 8 _law_number_here -/
noncomputable def i__law_sharing : Fn := mkFn 3 9 (sSeq (sAsg (iSl (iVar 0) iNoPart (iPart (iC (.int 63)))) (tgName 3))
  (sSeq (sAsg (iCB fSum (iCons (iVar 3) iNil)) (tgName 4))
  (sSeq (sAsg (iLst iNil) (tgName 5))
  (sSeq (sFor (itEnum (iVar 1)) (tgTupN 2 [(tgName 6), (tgName 7)]) (sSeq (sAsg (iCall i__law_number (iCons (iOp fIx (iVar 3) (iVar 6)) (iCons (iOp fAdd (iVar 6) (iOp fMul (iC (.int 63)) (iVar 2))) (iCons (iVar 4) iNil)))) (tgName 8))
  (sExpr (iBM mAppend (iVar 5) (iCons (iOp fIx (iVar 7) (iOp fMod (iOp fDiv (iVar 8) (iOp fIx (IL.iTup (iCons (iC (.int 10007)) (iCons (iC (.int 196613)) iNil))) (iVar 2))) (iC (.int 2)))) iNil)))))
  (sRet (iVar 5))))))

/-- 0 _law_people, 1 _law_sharing_here, 2 _law_found, 3 _law_who -/
noncomputable def i__law_loads : Fn := mkFn 2 4 (sSeq (sAsg (iOp fMul (iLst (iCons (iC (.int 0)) iNil)) (iVar 0)) (tgName 2))
  (sSeq (sFor (itList (iVar 1)) (tgName 3) (sAsg (iOp fAdd (iOp fIx (iVar 2) (iVar 3)) (iC (.int 1))) (tgSub (iVar 2) (iVar 3))))
  (sRet (iVar 2))))

/-- 0 _law_found, 1 _law_one -/
noncomputable def i__law_wholes : Fn := mkFn 1 2 (sSeq (sIf (iNot (iB (iCB fIsi (iCons (iVar 0) (iCons (iC (.ty "list")) iNil))))) (sRet (iC (.bl false))) sNext)
  (sRet (iCB fAll (iCons (iLc (itList (iVar 0)) (tgName 1) iYes (iAndV (iCB fIsi (iCons (iVar 1) (iCons (iC (.ty "int")) iNil))) (iNotV (iCB fIsi (iCons (iVar 1) (iCons (iC (.ty "bool")) iNil))))) [1]) iNil))))

/-- 0 _law_task, 1 _law_who -/
noncomputable def i__law_second : Fn := mkFn 2 2 (sRet (iOp fSub (iOp fAdd (iOp fIx (iVar 0) (iC (.int 0))) (iOp fIx (iVar 0) (iC (.int 1)))) (iVar 1)))

end IL

end
section
set_option Elab.async false
set_option linter.all false
set_option maxRecDepth 100000
set_option maxHeartbeats 4000000
namespace IL
open PySem L2
/-- 0 _law_some, 1 _law_people_here, 2 _law_one -/
noncomputable def i__law_people : Fn := mkFn 2 3 (sRet (iAndV (iCall i__law_wholes (iCons (iVar 0) iNil)) (iAndV (iOp fEq (iVar 0) (iCB fSortedSet (iCons (iVar 0) iNil))) (iCB fAll (iCons (iLc (itList (iVar 0)) (tgName 2) iYes (iChain fLe fLt (iC (.int 0)) (iVar 2) (iVar 1)) [2]) iNil)))))

/-- 0 _law_people_here, 1 _law_tasks_here, 2 _law_sharing_here, 3 _law_ends, 4 _law_found, 5 _law_some, 6 _law_came, 7 _law_at, 8 _law_task, 9 _law_who -/
noncomputable def i__law_due : Fn := mkFn 5 10 (sSeq (sIf (iB (iCB fIsiC (iCons (iVar 4) (iCons (iC (.gl "Side")) iNil)))) (sSeq (sAsg (iFld (iVar 4) "some") (tgName 5))
  (sSeq (sIf (iOr (iNot (iB (iCall i__law_people (iCons (iVar 5) (iCons (iVar 0) iNil))))) (iOr (iB (iOp (fIn true) (iOp fIx (iVar 3) (iC (.int 0))) (iVar 5))) (iB (iOp (fIn false) (iOp fIx (iVar 3) (iC (.int 1))) (iVar 5))))) (sRet (iC (.bl false))) sNext)
  (sRet (iCB fAll (iCons (iLc (itZip (iVar 1) (iVar 2)) (tgTupN 2 [(tgName 8), (tgName 9)]) iYes (iOrV (iOp (fIn true) (iVar 9) (iVar 5)) (iOp (fIn false) (iCall i__law_second (iCons (iVar 8) (iCons (iVar 9) iNil))) (iVar 5))) [8, 9]) iNil))))) sNext)
  (sSeq (sAsg (iLst (iCons (iOp fIx (iVar 3) (iC (.int 0))) iNil)) (tgName 6))
  (sSeq (sFor (itList (iFld (iVar 4) "tasks")) (tgName 7) (sSeq (sIf (iOr (iNot (iB (iChain fLe fLt (iC (.int 0)) (iVar 7) (iCB fLen (iCons (iVar 1) iNil))))) (iB (iOp fNe (iOp fIx (iVar 2) (iVar 7)) (iOp fIx (iVar 6) (iUn fNeg (iC (.int 1))))))) (sRet (iC (.bl false))) sNext)
  (sExpr (iBM mAppend (iVar 6) (iCons (iCall i__law_second (iCons (iOp fIx (iVar 1) (iVar 7)) (iCons (iOp fIx (iVar 6) (iUn fNeg (iC (.int 1)))) iNil))) iNil)))))
  (sRet (iAndV (iOp fEq (iOp fIx (iVar 6) (iUn fNeg (iC (.int 1)))) (iOp fIx (iVar 3) (iC (.int 1)))) (iOp fEq (iCB fLenSet (iCons (iVar 6) iNil)) (iCB fLen (iCons (iVar 6) iNil))))))))

/-- 0 _law_tasks_here, 1 _law_sharing_here, 2 _law_ends, 3 _law_came, 4 _law_more, 5 _law_task, 6 _law_who -/
noncomputable def i__law_leads : Fn := mkFn 3 7 (sSeq (sPar 3 4 (iCons (iDisp1 (iOp fIx (iVar 2) (iC (.int 0))) (iC (.bl true))) (iCons (iC (.bl true)) iNil)))
  (sSeq (sWhile (iB (iVar 4)) (sSeq (sAsg (iC (.bl false)) (tgName 4))
  (sFor (itZip (iVar 0) (iVar 1)) (tgTupN 2 [(tgName 5), (tgName 6)]) (sIf (iAnd (iB (iDIn false (iVar 6) (iVar 3))) (iB (iDIn true (iCall i__law_second (iCons (iVar 5) (iCons (iVar 6) iNil))) (iVar 3)))) (sSeq (sDSet (iVar 3) (iCall i__law_second (iCons (iVar 5) (iCons (iVar 6) iNil))) (iC (.bl true)))
  (sAsg (iC (.bl true)) (tgName 4))) sNext))))
  (sRet (iDIn false (iOp fIx (iVar 2) (iC (.int 1))) (iVar 3)))))

/-- 0 _law_people_here, 1 _law_tasks_here, 2 _law_sharing_here, 3 _law_ends, 4 _law_others, 5 _law_handed, 6 _law_again, 7 _law_found, 8 _law_kinds, 9 _law_wrong, 10 _law_other, 11 _law_near, 12 _law_far, 13 _law_after, 14 _law_at, 15 _law_due_here -/
noncomputable def i__law_right : Fn := mkFn 5 16 (sSeq (sAsg (iLst (iCons (iCB fList (iCons (iVar 1) iNil)) (iCons (iCB fList (iCons (iVar 2) iNil)) iNil))) (tgName 5))
  (sSeq (sFor (itRng (iC (.int 2))) (tgName 6) (sSeq (sAsg (iCall i_passed (iCons (iVar 0) (iCons (iOp fIx (iVar 5) (iC (.int 0))) (iCons (iOp fIx (iVar 5) (iC (.int 1))) (iCons (iOp fIx (iVar 3) (iC (.int 0))) (iCons (iOp fIx (iVar 3) (iC (.int 1))) iNil)))))) (tgName 7))
  (sSeq (sAsg (iLst (iCons (iCB fIsiC (iCons (iVar 7) (iCons (iC (.gl "Chain")) iNil))) (iCons (iCB fIsiC (iCons (iVar 7) (iCons (iC (.gl "Side")) iNil))) iNil))) (tgName 8))
  (sSeq (sAsg (iLst (iCons (iCB fIsiC (iCons (iVar 7) (iCons (iC (.gl "Even")) iNil))) (iCons (iCB fIsiC (iCons (iVar 7) (iCons (iC (.gl "Shared")) iNil))) (iCons (iCB fIsiC (iCons (iVar 7) (iCons (iC (.gl "Crowd")) iNil))) iNil)))) (tgName 9))
  (sSeq (sIf (iOr (iNot (iB (iCB fIsiC (iCons (iVar 7) (iCons (iC (.gl "Answer")) iNil))))) (iOr (iB (iOp fNe (iBM mCnt (iVar 8) (iCons (iC (.bl true)) iNil)) (iC (.int 1)))) (iOr (iB (iCB fAny (iCons (iVar 9) iNil))) (iB (iOp fNe (iVar 5) (iLst (iCons (iVar 1) (iCons (iVar 2) iNil)))))))) (sRet (iC (.bl false))) sNext)
  (sSeq (sIf (iNot (iB (iCall i__law_wholes (iCons (iIf (iB (iOp fIx (iVar 8) (iC (.int 0)))) (iFld (iVar 7) "tasks") (iFld (iVar 7) "some")) iNil)))) (sRet (iC (.bl false))) sNext)
  (sSeq (sIf (iOr (iB (iOp fNe (iOp fIx (iVar 8) (iC (.int 0))) (iCall i__law_leads (iCons (iVar 1) (iCons (iVar 2) (iCons (iVar 3) iNil)))))) (iNot (iB (iCall i__law_due (iCons (iVar 0) (iCons (iVar 1) (iCons (iVar 2) (iCons (iVar 3) (iCons (iVar 7) iNil))))))))) (sRet (iC (.bl false))) sNext)
  (sSeq (sIf (iB (iOp fIsNot (iIs "Chain" (iVar 7) (iMeth "Chain" "shows" i_Chain_shows (iVar 7) (iCons (iVar 0) (iCons (iVar 1) (iCons (iVar 2) (iCons (iOp fIx (iVar 3) (iC (.int 0))) (iCons (iOp fIx (iVar 3) (iC (.int 1))) iNil)))))) (iMeth "Side" "shows" i_Side_shows (iVar 7) (iCons (iVar 0) (iCons (iVar 1) (iCons (iVar 2) (iCons (iOp fIx (iVar 3) (iC (.int 0))) (iCons (iOp fIx (iVar 3) (iC (.int 1))) iNil))))))) (iC (.bl true)))) (sRet (iC (.bl false))) sNext)
  (sSeq (sFor (itList (iVar 4)) (tgTupN 3 [(tgName 10), (tgName 11), (tgName 12)]) (sIf (iB (iOp fNe (iIs "Chain" (iVar 7) (iMeth "Chain" "shows" i_Chain_shows (iVar 7) (iCons (iVar 0) (iCons (iVar 1) (iCons (iVar 10) (iCons (iVar 11) (iCons (iVar 12) iNil)))))) (iMeth "Side" "shows" i_Side_shows (iVar 7) (iCons (iVar 0) (iCons (iVar 1) (iCons (iVar 10) (iCons (iVar 11) (iCons (iVar 12) iNil))))))) (iCall i__law_due (iCons (iVar 0) (iCons (iVar 1) (iCons (iVar 10) (iCons (IL.iTup (iCons (iVar 11) (iCons (iVar 12) iNil))) (iCons (iVar 7) iNil)))))))) (sRet (iC (.bl false))) sNext))
  (sSeq (sIf (iB (iOp fIx (iVar 8) (iC (.int 0)))) (sSeq (sAsg (iCB fList (iCons (iVar 2) iNil)) (tgName 13))
  (sSeq (sFor (itList (iFld (iVar 7) "tasks")) (tgName 14) (sAsg (iCall i__law_second (iCons (iOp fIx (iVar 1) (iVar 14)) (iCons (iOp fIx (iVar 13) (iVar 14)) iNil))) (tgSub (iVar 13) (iVar 14))))
  (sSeq (sAsg (iCall i__law_loads (iCons (iVar 0) (iCons (iVar 2) iNil))) (tgName 15))
  (sSeq (sAsg (iOp fSub (iOp fIx (iVar 15) (iOp fIx (iVar 3) (iC (.int 0)))) (iC (.int 1))) (tgSub (iVar 15) (iOp fIx (iVar 3) (iC (.int 0)))))
  (sSeq (sAsg (iOp fAdd (iOp fIx (iVar 15) (iOp fIx (iVar 3) (iC (.int 1)))) (iC (.int 1))) (tgSub (iVar 15) (iOp fIx (iVar 3) (iC (.int 1)))))
  (sSeq (sIf (iB (iOp fNe (iCall i__law_loads (iCons (iVar 0) (iCons (iVar 13) iNil))) (iVar 15))) (sRet (iC (.bl false))) sNext)
  (sExpr (iBM mAppend (iFld (iVar 7) "tasks") (iCons (iUn fNeg (iC (.int 1))) iNil))))))))) (sExpr (iBM mAppend (iFld (iVar 7) "some") (iCons (iUn fNeg (iC (.int 1))) iNil))))
  (sIf (iB (iOp fIsNot (iIs "Chain" (iVar 7) (iMeth "Chain" "shows" i_Chain_shows (iVar 7) (iCons (iVar 0) (iCons (iVar 1) (iCons (iVar 2) (iCons (iOp fIx (iVar 3) (iC (.int 0))) (iCons (iOp fIx (iVar 3) (iC (.int 1))) iNil)))))) (iMeth "Side" "shows" i_Side_shows (iVar 7) (iCons (iVar 0) (iCons (iVar 1) (iCons (iVar 2) (iCons (iOp fIx (iVar 3) (iC (.int 0))) (iCons (iOp fIx (iVar 3) (iC (.int 1))) iNil))))))) (iC (.bl false)))) (sRet (iC (.bl false))) sNext)))))))))))
  (sRet (iC (.bl true)))))

/-- 0 _law_script, 1 _law_people_here, 2 _law_tasks_here, 3 _law_whole, 4 _law_sharings, 5 _law_at, 6 _law_cell, 7 _law_one, 8 _law_other, 9 _law_sharing_here, 10 _law_others, 11 _law_task -/
noncomputable def i_law : Fn := mkFn 1 12 (sSeq (sAsg (iCall i__law_tasks (iCons (iVar 0) iNil)) (tgTupN 2 [(tgName 1), (tgName 2)]))
  (sSeq (sAsg (iCB fSum (iCons (iSl (iVar 0) iNoPart (iPart (iC (.int 63)))) iNil)) (tgName 3))
  (sSeq (sAsg (iLst (iCons (iCall i__law_sharing (iCons (iVar 0) (iCons (iVar 2) (iCons (iC (.int 0)) iNil)))) (iCons (iCall i__law_sharing (iCons (iVar 0) (iCons (iVar 2) (iCons (iC (.int 1)) iNil)))) (iCons (iLc (itList (iVar 2)) (tgName 11) iYes (iOp fIx (iVar 11) (iC (.int 0))) [11]) iNil)))) (tgName 4))
  (sSeq (sFor (itEnum (iOp fAdd (iSl (iVar 0) iNoPart (iPart (iC (.int 4)))) (iLst (iCons (iC (.int 0)) (iCons (iVar 3) iNil))))) (tgTupN 2 [(tgName 5), (tgName 6)]) (sSeq (sAsg (iOp fMod (iOp fAdd (iOp fDiv (iVar 6) (iC (.int 3))) (iVar 5)) (iVar 1)) (tgName 7))
  (sSeq (sAsg (iOp fMod (iOp fAdd (iOp fAdd (iVar 7) (iC (.int 1))) (iOp fMod (iOp fDiv (iVar 6) (iC (.int 5))) (iOp fSub (iVar 1) (iC (.int 1))))) (iVar 1)) (tgName 8))
  (sSeq (sAsg (iOp fIx (iVar 4) (iOp fMod (iVar 5) (iC (.int 3)))) (tgName 9))
  (sSeq (sAsg (iLst (iCons (IL.iTup (iCons (iOp fIx (iVar 4) (iOp fMod (iOp fAdd (iVar 5) (iC (.int 1))) (iC (.int 3)))) (iCons (iVar 7) (iCons (iVar 8) iNil)))) (iCons (IL.iTup (iCons (iVar 9) (iCons (iVar 8) (iCons (iVar 7) iNil)))) iNil))) (tgName 10))
  (sIf (iNot (iB (iCall i__law_right (iCons (iVar 1) (iCons (iVar 2) (iCons (iVar 9) (iCons (IL.iTup (iCons (iVar 7) (iCons (iVar 8) iNil))) (iCons (iVar 10) iNil)))))))) (sRet (iC (.bl false))) sNext))))))
  (sSeq (sIf (iB (iOp fNe (iFld (iCall i_passed (iCons (iC (.int 3)) (iCons (iLst (iCons (IL.iTup (iCons (iC (.int 0)) (iCons (iC (.int 1)) iNil))) (iCons (IL.iTup (iCons (iC (.int 1)) (iCons (iC (.int 2)) iNil))) iNil))) (iCons (iLst (iCons (iC (.int 0)) (iCons (iC (.int 1)) iNil))) (iCons (iC (.int 0)) (iCons (iC (.int 2)) iNil)))))) "tasks") (iLst (iCons (iC (.int 0)) (iCons (iC (.int 1)) iNil))))) (sRet (iC (.bl false))) sNext)
  (sRet (iAndV (iOp fEq (iFld (iCall i_passed (iCons (iC (.int 3)) (iCons (iLst (iCons (IL.iTup (iCons (iC (.int 0)) (iCons (iC (.int 1)) iNil))) (iCons (IL.iTup (iCons (iC (.int 1)) (iCons (iC (.int 2)) iNil))) iNil))) (iCons (iLst (iCons (iC (.int 1)) (iCons (iC (.int 1)) iNil))) (iCons (iC (.int 0)) (iCons (iC (.int 2)) iNil)))))) "some") (iLst (iCons (iC (.int 0)) iNil))) (iOp fEq (iFld (iCall i_passed (iCons (iC (.int 2)) (iCons (iLst iNil) (iCons (iLst iNil) (iCons (iC (.int 1)) (iCons (iC (.int 0)) iNil)))))) "some") (iLst (iCons (iC (.int 1)) iNil))))))))))

end IL

end
section
set_option Elab.async false
set_option linter.all false
set_option maxRecDepth 100000
set_option maxHeartbeats 4000000
namespace IL
open PySem L2
def top (i : Nat) : Stmt := PySem.Challenge.pw_eitherdoes_k03_whole_passed.main.body.getD i (.Pass ⟨0, 0, 0, 0⟩)
structure Tx (g : Gm) (mg : Str → Option Value) : Prop where
  b : Bt mg
  g_MOST : ∃ t, mg "MOST" = some (.int 60 t)
  cl : Cl g
  na_sharing : ∀ c ∈ clsL, NoAttr g.K (g.γ c) "sharing"
  na_some : ∀ c ∈ clsL, NoAttr g.K (g.γ c) "some"
  na_tasks : ∀ c ∈ clsL, NoAttr g.K (g.γ c) "tasks"
  g_Answer : mg "Answer" = some (.ref (g.γ "Answer"))
  g_Shared : mg "Shared" = some (.ref (g.γ "Shared"))
  g_Crowd : mg "Crowd" = some (.ref (g.γ "Crowd"))
  g_Even : mg "Even" = some (.ref (g.γ "Even"))
  g_Chain : mg "Chain" = some (.ref (g.γ "Chain"))
  g_Side : mg "Side" = some (.ref (g.γ "Side"))
section
variable {P : Program} {w : World} {g : Gm} {mg : Str → Option Value} {base : Heap}

abbrev s_is_number : Stmt := top 8
theorem sc_is_number : FnScope ["thing", "least"] ["thing", "least"] (defScope s_is_number) := ⟨rfl, rfl, rfl, by decide +kernel, rfl, by decide +kernel, by decide +kernel⟩
theorem ok_is_number {f : Addr} {fd : FuncData} (F : Fun g.K "is_number" "is_number" s_is_number f fd) (T : Tx g mg) : FnOk P w g.K mg base CX0 1 f fd ["thing", "least"] (iSp g i_is_number) :=
  F.ok sc_is_number (iSp_len rfl) (fun cdv AA outer s H vs Q E hr h => ⟨_, (pss_one (ps_ret (pe_and (pe_callB call_isi (by rfl) T.b.isinstance (by decide +kernel) (pa_cons (pv 0) (pa_cons (pe_bltn (v := .ty "int") (by rfl) T.b.int (by decide +kernel) rfl) pa_nil))) (pe_and (pe_not (pe_callB call_isi (by rfl) T.b.isinstance (by decide +kernel) (pa_cons (pv 0) (pa_cons (pe_bltn (v := .ty "bool") (by rfl) T.b.bool (by decide +kernel) rfl) pa_nil)))) (pe_one (pe_cmpR op_ge (pv 0) (pv 1) (nomark _))))))), body h rfl ((ss_ret (sd_andV (sd_cb sc_isi (sd_cons sd_var (sd_cons sd_ty sd_nil))) (sd_andV (sd_notV (sd_cb sc_isi (sd_cons sd_var (sd_cons sd_ty sd_nil)))) (sd_op sr_ge sd_var sd_var)))))⟩)

abbrev s_is_task : Stmt := top 9
theorem sc_is_task : FnScope ["thing", "people", "one"] ["thing", "people"] (defScope s_is_task) := ⟨rfl, rfl, rfl, by decide +kernel, rfl, by decide +kernel, by decide +kernel⟩
theorem ok_is_task {f : Addr} {fd : FuncData} (F : Fun g.K "is_task" "is_task" s_is_task f fd) (T : Tx g mg) (c_is_number : Cal P w g.K mg base CX0 1 "is_number" ["thing", "least"] (iSp g i_is_number)) : FnOk P w g.K mg base CX0 2 f fd ["thing", "people"] (iSp g i_is_task) :=
  F.ok sc_is_task (iSp_len rfl) (fun cdv AA outer s H vs Q E hr h => ⟨_, (pss_cons (ps_if (pw_or (pt_not (pt_truth (pe_callB call_isi (by rfl) T.b.isinstance (by decide +kernel) (pa_cons (pv 0) (pa_cons (pe_bltn (v := .ty "tuple") (by rfl) T.b.tuple (by decide +kernel) rfl) pa_nil))) (fun _ => rfl))) (pw_or (pt_cmpR (op_neD hr.units) (pe_callB call_LEN (by rfl) T.b.len (by decide +kernel) (pa_cons (pv 0) pa_nil)) pe_int (nomark _)) (pw_or1 (pt_not (pt_truth (pe_callB (cr_all rfl) (by rfl) T.b.all (by decide +kernel) (pa_cons (pe_lc (own := [("one", 2)]) (by rfl) sc_is_task.nd (pi_tup (pv 0)) (blkOk_by (own := [("one", 2)]) (N := ["thing", "people", "one"]) (sc := defScope s_is_task) (by decide +kernel)) (fun _ _ _ _ _ => (pg_name (i := 2) sc_is_task.nd rfl (by first | exact Or.inl rfl | exact Or.inr rfl))) (fun _ _ _ _ _ => pts_nil) (fun _ _ _ _ _ => (pe_cal c_is_number (hr.mono (by decide)) (by rfl) (pa_cons (pv 2) (pa_cons pe_int pa_nil))))) pa_nil)) (fun _ => rfl)))))).pt (pss_one (ps_ret pe_bl)) pss_nil)
    (pss_one (ps_ret (pe_chain op_lt op_lt (pe_ix ix_seq (pv 0) pe_int (fun _ _ => rfl)) (pe_ix ix_seq (pv 0) pe_int (fun _ _ => rfl)) (pv 1))))), body h rfl ((ss_seq (ss_if (sd_or (sd_not (sd_tru (sd_cb sc_isi (sd_cons sd_var (sd_cons sd_ty sd_nil))))) (sd_or (sd_test (sd_op sr_ne (sd_cb sc_len (sd_cons sd_var sd_nil)) sd_int)) (sd_not (sd_tru (sd_cb sc_all (sd_cons (sd_lc (si_tup sd_var) sg_name (wp_name (by simp)) sd_yes (sd_call (sd_cons sd_var (sd_cons sd_int sd_nil)))) sd_nil)))))) (ss_ret sd_bl) ss_next)
    (ss_ret (sd_chain sr_lt sr_lt (sd_op sr_ix sd_var sd_int) (sd_op sr_ix sd_var sd_int) sd_var))))⟩)

abbrev s_check_tasks : Stmt := top 10
theorem sc_check_tasks : FnScope ["people", "tasks", "task"] ["people", "tasks"] (defScope s_check_tasks) := ⟨rfl, rfl, rfl, by decide +kernel, rfl, by decide +kernel, by decide +kernel⟩
theorem ok_check_tasks {f : Addr} {fd : FuncData} (F : Fun g.K "check_tasks" "check_tasks" s_check_tasks f fd) (T : Tx g mg) (c_is_number : Cal P w g.K mg base CX0 1 "is_number" ["thing", "least"] (iSp g i_is_number)) (c_is_task : Cal P w g.K mg base CX0 2 "is_task" ["thing", "people"] (iSp g i_is_task)) : FnOk P w g.K mg base CX0 3 f fd ["people", "tasks"] (iSp g i_check_tasks) :=
  F.ok sc_check_tasks (iSp_len rfl) (fun cdv AA outer s H vs Q E hr h => ⟨_, (pss_cons (ps_if (pw_or (pt_not (pt_truth (pe_cal c_is_number (hr.mono (by decide)) (by rfl) (pa_cons (pv 0) (pa_cons pe_int pa_nil))) (fun _ => rfl))) (pw_or1 (pt_cmpR op_gt (pv 0) (pe_glob (v := .int 60) (by rfl) T.g_MOST.choose_spec ⟨_, rfl⟩) (nomark _)))).pt (pss_one ps_dead) pss_nil)
    (pss_one (ps_if (pw_or (pt_not (pt_truth (pe_callB call_isi (by rfl) T.b.isinstance (by decide +kernel) (pa_cons (pv 1) (pa_cons (pe_bltn (v := .ty "list") (by rfl) T.b.list (by decide +kernel) rfl) pa_nil))) (fun _ => rfl))) (pw_or1 (pt_not (pt_truth (pe_callB (cr_all rfl) (by rfl) T.b.all (by decide +kernel) (pa_cons (pe_lc (own := [("task", 2)]) (by rfl) sc_check_tasks.nd (pi_list (pv 1)) (blkOk_by (own := [("task", 2)]) (N := ["people", "tasks", "task"]) (sc := defScope s_check_tasks) (by decide +kernel)) (fun _ _ _ _ _ => (pg_name (i := 2) sc_check_tasks.nd rfl (by first | exact Or.inl rfl | exact Or.inr rfl))) (fun _ _ _ _ _ => pts_nil) (fun _ _ _ _ _ => (pe_cal c_is_task (hr.mono (by decide)) (by rfl) (pa_cons (pv 2) (pa_cons (pv 0) pa_nil))))) pa_nil)) (fun _ => rfl))))).pt (pss_one ps_dead) pss_nil))), body h rfl ((ss_seq (ss_if (sd_or (sd_not (sd_tru (sd_call (sd_cons sd_var (sd_cons sd_int sd_nil))))) (sd_test (sd_op sr_gt sd_var sd_int))) ss_dead ss_next)
    (ss_if (sd_or (sd_not (sd_tru (sd_cb sc_isi (sd_cons sd_var (sd_cons sd_ty sd_nil))))) (sd_not (sd_tru (sd_cb sc_all (sd_cons (sd_lc (si_list sd_var) sg_name (wp_name (by simp)) sd_yes (sd_call (sd_cons sd_var (sd_cons sd_var sd_nil)))) sd_nil))))) ss_dead ss_next)))⟩)

abbrev s_is_sharing : Stmt := top 11
theorem sc_is_sharing : FnScope ["tasks", "sharing", "one", "task", "who"] ["tasks", "sharing"] (defScope s_is_sharing) := ⟨rfl, rfl, rfl, by decide +kernel, rfl, by decide +kernel, by decide +kernel⟩
theorem ok_is_sharing {f : Addr} {fd : FuncData} (F : Fun g.K "is_sharing" "is_sharing" s_is_sharing f fd) (T : Tx g mg) (c_is_number : Cal P w g.K mg base CX0 1 "is_number" ["thing", "least"] (iSp g i_is_number)) : FnOk P w g.K mg base CX0 2 f fd ["tasks", "sharing"] (iSp g i_is_sharing) :=
  F.ok sc_is_sharing (iSp_len rfl) (fun cdv AA outer s H vs Q E hr h => ⟨_, (pss_cons (ps_if (pw_or (pt_not (pt_truth (pe_callB call_isi (by rfl) T.b.isinstance (by decide +kernel) (pa_cons (pv 1) (pa_cons (pe_bltn (v := .ty "list") (by rfl) T.b.list (by decide +kernel) rfl) pa_nil))) (fun _ => rfl))) (pw_or (pt_cmpR (op_neD hr.units) (pe_callB call_LEN (by rfl) T.b.len (by decide +kernel) (pa_cons (pv 1) pa_nil)) (pe_callB call_LEN (by rfl) T.b.len (by decide +kernel) (pa_cons (pv 0) pa_nil)) (nomark _)) (pw_or1 (pt_not (pt_truth (pe_callB (cr_all rfl) (by rfl) T.b.all (by decide +kernel) (pa_cons (pe_lc (own := [("one", 2)]) (by rfl) sc_is_sharing.nd (pi_list (pv 1)) (blkOk_by (own := [("one", 2)]) (N := ["tasks", "sharing", "one", "task", "who"]) (sc := defScope s_is_sharing) (by decide +kernel)) (fun _ _ _ _ _ => (pg_name (i := 2) sc_is_sharing.nd rfl (by first | exact Or.inl rfl | exact Or.inr rfl))) (fun _ _ _ _ _ => pts_nil) (fun _ _ _ _ _ => (pe_cal c_is_number (hr.mono (by decide)) (by rfl) (pa_cons (pv 2) (pa_cons pe_int pa_nil))))) pa_nil)) (fun _ => rfl)))))).pt (pss_one (ps_ret pe_bl)) pss_nil)
    (pss_one (ps_ret (pe_callB (cr_all rfl) (by rfl) T.b.all (by decide +kernel) (pa_cons (pe_lc (own := [("task", 3), ("who", 4)]) (by rfl) sc_is_sharing.nd (pi_zip (by rfl) T.b.zip (pa_cons (pv 0) (pa_cons (pv 1) pa_nil))) (blkOk_by (own := [("task", 3), ("who", 4)]) (N := ["tasks", "sharing", "one", "task", "who"]) (sc := defScope s_is_sharing) (by decide +kernel)) (fun _ _ _ _ _ => (pg_tup rfl (pgs_cons (pg_name (i := 3) sc_is_sharing.nd rfl (by first | exact Or.inl rfl | exact Or.inr rfl)) (pgs_cons (pg_name (i := 4) sc_is_sharing.nd rfl (by first | exact Or.inl rfl | exact Or.inr rfl)) pgs_nil)))) (fun _ _ _ _ _ => pts_nil) (fun _ _ _ _ _ => (pe_cmpR op_in_seq (pv 4) (pv 3) rfl))) pa_nil))))), body h rfl ((ss_seq (ss_if (sd_or (sd_not (sd_tru (sd_cb sc_isi (sd_cons sd_var (sd_cons sd_ty sd_nil))))) (sd_or (sd_test (sd_op sr_ne (sd_cb sc_len (sd_cons sd_var sd_nil)) (sd_cb sc_len (sd_cons sd_var sd_nil)))) (sd_not (sd_tru (sd_cb sc_all (sd_cons (sd_lc (si_list sd_var) sg_name (wp_name (by simp)) sd_yes (sd_call (sd_cons sd_var (sd_cons sd_int sd_nil)))) sd_nil)))))) (ss_ret sd_bl) ss_next)
    (ss_ret (sd_cb sc_all (sd_cons (sd_lc (si_zip sd_var sd_var) (sg_tup (sgs_cons sg_name (sgs_cons sg_name sgs_nil))) (wp_tup (wps_cons (by simp) (wps_cons (by simp) wps_nil))) sd_yes (sd_op sr_in sd_var sd_var)) sd_nil)))))⟩)

abbrev s_check_sharing : Stmt := top 12
theorem sc_check_sharing : FnScope ["tasks", "sharing"] ["tasks", "sharing"] (defScope s_check_sharing) := ⟨rfl, rfl, rfl, by decide +kernel, rfl, by decide +kernel, by decide +kernel⟩
theorem ok_check_sharing {f : Addr} {fd : FuncData} (F : Fun g.K "check_sharing" "check_sharing" s_check_sharing f fd) (T : Tx g mg) (c_is_sharing : Cal P w g.K mg base CX0 2 "is_sharing" ["tasks", "sharing"] (iSp g i_is_sharing)) : FnOk P w g.K mg base CX0 3 f fd ["tasks", "sharing"] (iSp g i_check_sharing) :=
  F.ok sc_check_sharing (iSp_len rfl) (fun cdv AA outer s H vs Q E hr h => ⟨_, (pss_one (ps_if (pt_not (pt_truth (pe_cal c_is_sharing (hr.mono (by decide)) (by rfl) (pa_cons (pv 0) (pa_cons (pv 1) pa_nil))) (fun _ => rfl))) (pss_one ps_dead) pss_nil)), body h rfl ((ss_if (sd_not (sd_tru (sd_call (sd_cons sd_var (sd_cons sd_var sd_nil))))) ss_dead ss_next))⟩)

abbrev s_loads_of : Stmt := top 13
theorem sc_loads_of : FnScope ["people", "sharing", "found", "who"] ["people", "sharing"] (defScope s_loads_of) := ⟨rfl, rfl, rfl, by decide +kernel, rfl, by decide +kernel, by decide +kernel⟩
theorem ok_loads_of {f : Addr} {fd : FuncData} (F : Fun g.K "loads_of" "loads_of" s_loads_of f fd) (T : Tx g mg) : FnOk P w g.K mg base CX0 1 f fd ["people", "sharing"] (iSp g i_loads_of) :=
  F.ok sc_loads_of (iSp_len rfl) (fun cdv AA outer s H vs Q E hr h => ⟨_, (pss_cons (ps_set (i := 2) sc_loads_of.nd rfl (by first | exact Or.inl rfl | exact Or.inr rfl) (pe_op op_MUL (pe_lst (pa_cons pe_int pa_nil)) (pv 0)))
    (pss_cons (ps_for PassesOwn.never (by rfl) (pi_list (pv 1)) (pg_name (i := 3) sc_loads_of.nd rfl (by first | exact Or.inl rfl | exact Or.inr rfl)) (pss_one (ps_augS (pv 2) (pv 3) get_LIST pe_int ip_add set_list)))
    (pss_one (ps_ret (pv 2))))), body h rfl ((ss_seq (ss_asg (sd_op sr_mul (sd_lst 1 (len_cons len_nil) (by decide) (sd_cons sd_int sd_nil)) sd_var) sg_name)
    (ss_seq (ss_for (si_list sd_var) sg_name (ss_augS sd_var sd_var sd_int))
    (ss_ret sd_var))))⟩)

abbrev s_second_of : Stmt := top 14
theorem sc_second_of : FnScope ["task", "who"] ["task", "who"] (defScope s_second_of) := ⟨rfl, rfl, rfl, by decide +kernel, rfl, by decide +kernel, by decide +kernel⟩
theorem ok_second_of {f : Addr} {fd : FuncData} (F : Fun g.K "second_of" "second_of" s_second_of f fd) (T : Tx g mg) : FnOk P w g.K mg base CX0 1 f fd ["task", "who"] (iSp g i_second_of) :=
  F.ok sc_second_of (iSp_len rfl) (fun cdv AA outer s H vs Q E hr h => ⟨_, (pss_one (ps_ret (pe_op op_sub (pe_op op_ADD (pe_ix ix_seq (pv 0) pe_int (fun _ _ => rfl)) (pe_ix ix_seq (pv 0) pe_int (fun _ _ => rfl))) (pv 1)))), body h rfl ((ss_ret (sd_op sr_sub (sd_op sr_add (sd_op sr_ix sd_var sd_int) (sd_op sr_ix sd_var sd_int)) sd_var)))⟩)

abbrev s_among : Stmt := top 15
theorem sc_among : FnScope ["tasks", "some", "task"] ["tasks", "some"] (defScope s_among) := ⟨rfl, rfl, rfl, by decide +kernel, rfl, by decide +kernel, by decide +kernel⟩
theorem ok_among {f : Addr} {fd : FuncData} (F : Fun g.K "among" "among" s_among f fd) (T : Tx g mg) : FnOk P w g.K mg base CX0 1 f fd ["tasks", "some"] (iSp g i_among) :=
  F.ok sc_among (iSp_len rfl) (fun cdv AA outer s H vs Q E hr h => ⟨_, (pss_one (ps_ret (pe_callB call_LEN (by rfl) T.b.len (by decide +kernel) (pa_cons (pe_lc (own := [("task", 2)]) (by rfl) sc_among.nd (pi_list (pv 0)) (blkOk_by (own := [("task", 2)]) (N := ["tasks", "some", "task"]) (sc := defScope s_among) (by decide +kernel)) (fun _ _ _ _ _ => (pg_name (i := 2) sc_among.nd rfl (by first | exact Or.inl rfl | exact Or.inr rfl))) (fun _ _ _ _ _ => (pts_one (pw_and (pt_cmpR op_in_seq (pe_ix ix_seq (pv 2) pe_int (fun _ _ => rfl)) (pv 1) rfl) (pw_and1 (pt_cmpR op_in_seq (pe_ix ix_seq (pv 2) pe_int (fun _ _ => rfl)) (pv 1) rfl))).pt)) (fun _ _ _ _ _ => (pv 2))) pa_nil)))), body h rfl ((ss_ret (sd_cb sc_len (sd_cons (sd_lc (si_list sd_var) sg_name (wp_name (by simp)) (sd_and (sd_test (sd_op sr_in (sd_op sr_ix sd_var sd_int) sd_var)) (sd_test (sd_op sr_in (sd_op sr_ix sd_var sd_int) sd_var))) sd_var) sd_nil))))⟩)

abbrev s_are_people : Stmt := top 16
theorem sc_are_people : FnScope ["some", "people", "one"] ["some", "people"] (defScope s_are_people) := ⟨rfl, rfl, rfl, by decide +kernel, rfl, by decide +kernel, by decide +kernel⟩
theorem ok_are_people {f : Addr} {fd : FuncData} (F : Fun g.K "are_people" "are_people" s_are_people f fd) (T : Tx g mg) : FnOk P w g.K mg base CX0 1 f fd ["some", "people"] (iSp g i_are_people) :=
  F.ok sc_are_people (iSp_len rfl) (fun cdv AA outer s H vs Q E hr h => ⟨_, (pss_one (ps_ret (pe_and (pe_cmpR (op_eqD hr.units) (pv 0) (pe_callB (cr_sortedSet rfl) (by rfl) T.b.sorted (by decide +kernel) (pa_cons (pe_callTy (call_SET rfl) (by rfl) T.b.set (by decide +kernel) (pa_cons (pv 0) pa_nil)) pa_nil)) (nomark _)) (pe_one (pe_callB (cr_all rfl) (by rfl) T.b.all (by decide +kernel) (pa_cons (pe_lc (own := [("one", 2)]) (by rfl) sc_are_people.nd (pi_list (pv 0)) (blkOk_by (own := [("one", 2)]) (N := ["some", "people", "one"]) (sc := defScope s_are_people) (by decide +kernel)) (fun _ _ _ _ _ => (pg_name (i := 2) sc_are_people.nd rfl (by first | exact Or.inl rfl | exact Or.inr rfl))) (fun _ _ _ _ _ => pts_nil) (fun _ _ _ _ _ => (pe_chain op_le op_lt pe_int (pv 2) (pv 1)))) pa_nil)))))), body h rfl ((ss_ret (sd_andV (sd_op sr_eq sd_var (sd_sortedSet (sd_cons sd_var sd_nil))) (sd_cb sc_all (sd_cons (sd_lc (si_list sd_var) sg_name (wp_name (by simp)) sd_yes (sd_chain sr_le sr_lt sd_int sd_var sd_var)) sd_nil)))))⟩)

abbrev s_Shared_init : Stmt := inClass (top 19) 0
theorem sc_Shared_init : FnScope ["self", "sharing"] ["self", "sharing"] (defScope s_Shared_init) := ⟨rfl, rfl, rfl, by decide +kernel, rfl, by decide +kernel, by decide +kernel⟩
theorem ok_Shared_init {f : Addr} {fd : FuncData} (F : Fun g.K "__init__" "Shared.__init__" s_Shared_init f fd) (T : Tx g mg) : FnOk P w g.K mg base CX0 1 f fd ["self", "sharing"] (iSp g i_Shared_init) :=
  F.ok sc_Shared_init (iSp_len rfl) (fun cdv AA outer s H vs Q E hr h => ⟨_, (pss_one (ps_fld (pv 0) (pe_callTy call_LIST (by rfl) T.b.list (by decide +kernel) (pa_cons (pv 1) pa_nil)) rfl)), body h rfl ((ss_fld T.cl T.na_sharing sd_var (sd_cb sc_list (sd_cons sd_var sd_nil))))⟩)

abbrev s_Shared_shows : Stmt := inClass (top 19) 1
theorem sc_Shared_shows : FnScope ["self", "people", "tasks", "limits", "load", "limit"] ["self", "people", "tasks", "limits"] (defScope s_Shared_shows) := ⟨rfl, rfl, rfl, by decide +kernel, rfl, by decide +kernel, by decide +kernel⟩
theorem ok_Shared_shows {f : Addr} {fd : FuncData} (F : Fun g.K "shows" "Shared.shows" s_Shared_shows f fd) (T : Tx g mg) (c_is_sharing : Cal P w g.K mg base CX0 2 "is_sharing" ["tasks", "sharing"] (iSp g i_is_sharing)) (c_loads_of : Cal P w g.K mg base CX0 1 "loads_of" ["people", "sharing"] (iSp g i_loads_of)) : FnOk P w g.K mg base CX0 3 f fd ["self", "people", "tasks", "limits"] (iSp g i_Shared_shows) :=
  F.ok sc_Shared_shows (iSp_len rfl) (fun cdv AA outer s H vs Q E hr h => ⟨_, (pss_cons (ps_if (pt_not (pt_truth (pe_cal c_is_sharing (hr.mono (by decide)) (by rfl) (pa_cons (pv 2) (pa_cons (pe_fld (pv 0) rfl) pa_nil))) (fun _ => rfl))) (pss_one (ps_ret pe_bl)) pss_nil)
    (pss_one (ps_ret (pe_callB (cr_all rfl) (by rfl) T.b.all (by decide +kernel) (pa_cons (pe_lc (own := [("load", 4), ("limit", 5)]) (by rfl) sc_Shared_shows.nd (pi_zip (by rfl) T.b.zip (pa_cons (pe_cal c_loads_of (hr.mono (by decide)) (by rfl) (pa_cons (pv 1) (pa_cons (pe_fld (pv 0) rfl) pa_nil))) (pa_cons (pv 3) pa_nil))) (blkOk_by (own := [("load", 4), ("limit", 5)]) (N := ["self", "people", "tasks", "limits", "load", "limit"]) (sc := defScope s_Shared_shows) (by decide +kernel)) (fun _ _ _ _ _ => (pg_tup rfl (pgs_cons (pg_name (i := 4) sc_Shared_shows.nd rfl (by first | exact Or.inl rfl | exact Or.inr rfl)) (pgs_cons (pg_name (i := 5) sc_Shared_shows.nd rfl (by first | exact Or.inl rfl | exact Or.inr rfl)) pgs_nil)))) (fun _ _ _ _ _ => pts_nil) (fun _ _ _ _ _ => (pe_cmpR op_le (pv 4) (pv 5) (nomark _)))) pa_nil))))), body h rfl ((ss_seq (ss_if (sd_not (sd_tru (sd_call (sd_cons sd_var (sd_cons (sd_fld T.cl T.na_sharing sd_var) sd_nil))))) (ss_ret sd_bl) ss_next)
    (ss_ret (sd_cb sc_all (sd_cons (sd_lc (si_zip (sd_call (sd_cons sd_var (sd_cons (sd_fld T.cl T.na_sharing sd_var) sd_nil))) sd_var) (sg_tup (sgs_cons sg_name (sgs_cons sg_name sgs_nil))) (wp_tup (wps_cons (by simp) (wps_cons (by simp) wps_nil))) sd_yes (sd_op sr_le sd_var sd_var)) sd_nil)))))⟩)

abbrev s_Crowd_init : Stmt := inClass (top 20) 0
theorem sc_Crowd_init : FnScope ["self", "some"] ["self", "some"] (defScope s_Crowd_init) := ⟨rfl, rfl, rfl, by decide +kernel, rfl, by decide +kernel, by decide +kernel⟩
theorem ok_Crowd_init {f : Addr} {fd : FuncData} (F : Fun g.K "__init__" "Crowd.__init__" s_Crowd_init f fd) (T : Tx g mg) : FnOk P w g.K mg base CX0 1 f fd ["self", "some"] (iSp g i_Crowd_init) :=
  F.ok sc_Crowd_init (iSp_len rfl) (fun cdv AA outer s H vs Q E hr h => ⟨_, (pss_one (ps_fld (pv 0) (pe_callTy call_LIST (by rfl) T.b.list (by decide +kernel) (pa_cons (pv 1) pa_nil)) rfl)), body h rfl ((ss_fld T.cl T.na_some sd_var (sd_cb sc_list (sd_cons sd_var sd_nil))))⟩)

abbrev s_Crowd_shows : Stmt := inClass (top 20) 1
theorem sc_Crowd_shows : FnScope ["self", "people", "tasks", "limits", "one"] ["self", "people", "tasks", "limits"] (defScope s_Crowd_shows) := ⟨rfl, rfl, rfl, by decide +kernel, rfl, by decide +kernel, by decide +kernel⟩
theorem ok_Crowd_shows {f : Addr} {fd : FuncData} (F : Fun g.K "shows" "Crowd.shows" s_Crowd_shows f fd) (T : Tx g mg) (c_are_people : Cal P w g.K mg base CX0 1 "are_people" ["some", "people"] (iSp g i_are_people)) (c_among : Cal P w g.K mg base CX0 1 "among" ["tasks", "some"] (iSp g i_among)) : FnOk P w g.K mg base CX0 2 f fd ["self", "people", "tasks", "limits"] (iSp g i_Crowd_shows) :=
  F.ok sc_Crowd_shows (iSp_len rfl) (fun cdv AA outer s H vs Q E hr h => ⟨_, (pss_cons (ps_if (pt_not (pt_truth (pe_cal c_are_people (hr.mono (by decide)) (by rfl) (pa_cons (pe_fld (pv 0) rfl) (pa_cons (pv 1) pa_nil))) (fun _ => rfl))) (pss_one (ps_ret pe_bl)) pss_nil)
    (pss_one (ps_ret (pe_cmpR op_gt (pe_cal c_among (hr.mono (by decide)) (by rfl) (pa_cons (pv 2) (pa_cons (pe_fld (pv 0) rfl) pa_nil))) (pe_callB (cr_sum rfl) (by rfl) T.b.sum (by decide +kernel) (pa_cons (pe_lc (own := [("one", 4)]) (by rfl) sc_Crowd_shows.nd (pi_list (pe_fld (pv 0) rfl)) (blkOk_by (own := [("one", 4)]) (N := ["self", "people", "tasks", "limits", "one"]) (sc := defScope s_Crowd_shows) (by decide +kernel)) (fun _ _ _ _ _ => (pg_name (i := 4) sc_Crowd_shows.nd rfl (by first | exact Or.inl rfl | exact Or.inr rfl))) (fun _ _ _ _ _ => pts_nil) (fun _ _ _ _ _ => (pe_ix ix_seq (pv 3) (pv 4) (fun _ _ => rfl)))) pa_nil)) (nomark _))))), body h rfl ((ss_seq (ss_if (sd_not (sd_tru (sd_call (sd_cons (sd_fld T.cl T.na_some sd_var) (sd_cons sd_var sd_nil))))) (ss_ret sd_bl) ss_next)
    (ss_ret (sd_op sr_gt (sd_call (sd_cons sd_var (sd_cons (sd_fld T.cl T.na_some sd_var) sd_nil))) (sd_cb sc_sum (sd_cons (sd_lc (si_list (sd_fld T.cl T.na_some sd_var)) sg_name (wp_name (by simp)) sd_yes (sd_op sr_ix sd_var sd_var)) sd_nil))))))⟩)

abbrev s_Even_init : Stmt := inClass (top 21) 0
theorem sc_Even_init : FnScope ["self", "sharing", "some"] ["self", "sharing", "some"] (defScope s_Even_init) := ⟨rfl, rfl, rfl, by decide +kernel, rfl, by decide +kernel, by decide +kernel⟩
theorem ok_Even_init {f : Addr} {fd : FuncData} (F : Fun g.K "__init__" "Even.__init__" s_Even_init f fd) (T : Tx g mg) : FnOk P w g.K mg base CX0 1 f fd ["self", "sharing", "some"] (iSp g i_Even_init) :=
  F.ok sc_Even_init (iSp_len rfl) (fun cdv AA outer s H vs Q E hr h => ⟨_, (pss_cons (ps_fld (pv 0) (pe_callTy call_LIST (by rfl) T.b.list (by decide +kernel) (pa_cons (pv 1) pa_nil)) rfl)
    (pss_one (ps_fld (pv 0) (pe_callTy call_LIST (by rfl) T.b.list (by decide +kernel) (pa_cons (pv 2) pa_nil)) rfl))), body h rfl ((ss_seq (ss_fld T.cl T.na_sharing sd_var (sd_cb sc_list (sd_cons sd_var sd_nil)))
    (ss_fld T.cl T.na_some sd_var (sd_cb sc_list (sd_cons sd_var sd_nil)))))⟩)

abbrev s_Even_shows : Stmt := inClass (top 21) 1
theorem sc_Even_shows : FnScope ["self", "people", "tasks", "most"] ["self", "people", "tasks"] (defScope s_Even_shows) := ⟨rfl, rfl, rfl, by decide +kernel, rfl, by decide +kernel, by decide +kernel⟩
theorem ok_Even_shows {f : Addr} {fd : FuncData} (F : Fun g.K "shows" "Even.shows" s_Even_shows f fd) (T : Tx g mg) (c_loads_of : Cal P w g.K mg base CX0 1 "loads_of" ["people", "sharing"] (iSp g i_loads_of)) (c_among : Cal P w g.K mg base CX0 1 "among" ["tasks", "some"] (iSp g i_among)) (c_is_sharing : Cal P w g.K mg base CX0 2 "is_sharing" ["tasks", "sharing"] (iSp g i_is_sharing)) (c_are_people : Cal P w g.K mg base CX0 1 "are_people" ["some", "people"] (iSp g i_are_people)) : FnOk P w g.K mg base CX0 3 f fd ["self", "people", "tasks"] (iSp g i_Even_shows) :=
  F.ok sc_Even_shows (iSp_len rfl) (fun cdv AA outer s H vs Q E hr h => ⟨_, (pss_cons (ps_if (pw_or (pt_not (pt_truth (pe_cal c_is_sharing (hr.mono (by decide)) (by rfl) (pa_cons (pv 2) (pa_cons (pe_fld (pv 0) rfl) pa_nil))) (fun _ => rfl))) (pw_or1 (pt_not (pt_truth (pe_cal c_are_people (hr.mono (by decide)) (by rfl) (pa_cons (pe_fld (pv 0) rfl) (pa_cons (pv 1) pa_nil))) (fun _ => rfl))))).pt (pss_one (ps_ret pe_bl)) pss_nil)
    (pss_cons (ps_if (pt_cmpR (op_eqD hr.units) (pv 2) (pe_lst pa_nil) (nomark _)) (pss_one (ps_ret (pe_cmpR (op_eqD hr.units) (pe_fld (pv 0) rfl) (pe_lst pa_nil) (nomark _)))) pss_nil)
    (pss_cons (ps_set (i := 3) sc_Even_shows.nd rfl (by first | exact Or.inl rfl | exact Or.inr rfl) (pe_callB (call_MAX rfl) (by rfl) T.b.max (by decide +kernel) (pa_cons (pe_cal c_loads_of (hr.mono (by decide)) (by rfl) (pa_cons (pv 1) (pa_cons (pe_fld (pv 0) rfl) pa_nil))) pa_nil)))
    (pss_one (ps_ret (pe_cmpR op_gt (pe_cal c_among (hr.mono (by decide)) (by rfl) (pa_cons (pv 2) (pa_cons (pe_fld (pv 0) rfl) pa_nil))) (pe_op op_MUL (pe_op op_sub (pv 3) pe_int) (pe_callB call_LEN (by rfl) T.b.len (by decide +kernel) (pa_cons (pe_fld (pv 0) rfl) pa_nil))) (nomark _))))))), body h rfl ((ss_seq (ss_if (sd_or (sd_not (sd_tru (sd_call (sd_cons sd_var (sd_cons (sd_fld T.cl T.na_sharing sd_var) sd_nil))))) (sd_not (sd_tru (sd_call (sd_cons (sd_fld T.cl T.na_some sd_var) (sd_cons sd_var sd_nil)))))) (ss_ret sd_bl) ss_next)
    (ss_seq (ss_if (sd_test (sd_op sr_eq sd_var (sd_lst 0 len_nil (by decide) sd_nil))) (ss_ret (sd_op sr_eq (sd_fld T.cl T.na_some sd_var) (sd_lst 0 len_nil (by decide) sd_nil))) ss_next)
    (ss_seq (ss_asg (sd_cb sc_max (sd_cons (sd_call (sd_cons sd_var (sd_cons (sd_fld T.cl T.na_sharing sd_var) sd_nil))) sd_nil)) sg_name)
    (ss_ret (sd_op sr_gt (sd_call (sd_cons sd_var (sd_cons (sd_fld T.cl T.na_some sd_var) sd_nil))) (sd_op sr_mul (sd_op sr_sub sd_var sd_int) (sd_cb sc_len (sd_cons (sd_fld T.cl T.na_some sd_var) sd_nil)))))))))⟩)

abbrev s_Chain_init : Stmt := inClass (top 22) 0
theorem sc_Chain_init : FnScope ["self", "tasks"] ["self", "tasks"] (defScope s_Chain_init) := ⟨rfl, rfl, rfl, by decide +kernel, rfl, by decide +kernel, by decide +kernel⟩
theorem ok_Chain_init {f : Addr} {fd : FuncData} (F : Fun g.K "__init__" "Chain.__init__" s_Chain_init f fd) (T : Tx g mg) : FnOk P w g.K mg base CX0 1 f fd ["self", "tasks"] (iSp g i_Chain_init) :=
  F.ok sc_Chain_init (iSp_len rfl) (fun cdv AA outer s H vs Q E hr h => ⟨_, (pss_one (ps_fld (pv 0) (pe_callTy call_LIST (by rfl) T.b.list (by decide +kernel) (pa_cons (pv 1) pa_nil)) rfl)), body h rfl ((ss_fld T.cl T.na_tasks sd_var (sd_cb sc_list (sd_cons sd_var sd_nil))))⟩)

abbrev s_Chain_shows : Stmt := inClass (top 22) 1
theorem sc_Chain_shows : FnScope ["self", "people", "tasks", "sharing", "one", "other", "came", "at"] ["self", "people", "tasks", "sharing", "one", "other"] (defScope s_Chain_shows) := ⟨rfl, rfl, rfl, by decide +kernel, rfl, by decide +kernel, by decide +kernel⟩
theorem ok_Chain_shows {f : Addr} {fd : FuncData} (F : Fun g.K "shows" "Chain.shows" s_Chain_shows f fd) (T : Tx g mg) (c_second_of : Cal P w g.K mg base CX0 1 "second_of" ["task", "who"] (iSp g i_second_of)) : FnOk P w g.K mg base CX0 2 f fd ["self", "people", "tasks", "sharing", "one", "other"] (iSp g i_Chain_shows) :=
  F.ok sc_Chain_shows (iSp_len rfl) (fun cdv AA outer s H vs Q E hr h => ⟨_, (pss_cons (ps_set (i := 6) sc_Chain_shows.nd rfl (by first | exact Or.inl rfl | exact Or.inr rfl) (pe_lst (pa_cons (pv 4) pa_nil)))
    (pss_cons (ps_for PassesOwn.never (by rfl) (pi_list (pe_fld (pv 0) rfl)) (pg_name (i := 7) sc_Chain_shows.nd rfl (by first | exact Or.inl rfl | exact Or.inr rfl)) (pss_cons (ps_if (pw_or (pt_not (pt_chain op_le op_lt pe_int (pv 7) (pe_callB call_LEN (by rfl) T.b.len (by decide +kernel) (pa_cons (pv 2) pa_nil)))) (pw_or1 (pt_cmpR (op_neD hr.units) (pe_ix ix_seq (pv 3) (pv 7) (fun _ _ => rfl)) (pe_ix ix_seq (pv 6) (pe_un un_neg pe_int) (fun _ _ => rfl)) (nomark _)))).pt (pss_one (ps_ret pe_bl)) pss_nil)
    (pss_one (ps_expr (pe_bm PySem.F.plainAttrs_list PySem.F.slot_list_append PySem.F.type_list_append mt_append (pv 6) (pa_cons (pe_cal c_second_of (hr.mono (by decide)) (by rfl) (pa_cons (pe_ix ix_seq (pv 2) (pv 7) (fun _ _ => rfl)) (pa_cons (pe_ix ix_seq (pv 6) (pe_un un_neg pe_int) (fun _ _ => rfl)) pa_nil))) pa_nil))))))
    (pss_one (ps_ret (pe_and (pe_cmpR (op_eqD hr.units) (pe_ix ix_seq (pv 6) (pe_un un_neg pe_int) (fun _ _ => rfl)) (pv 5) (nomark _)) (pe_one (pe_cmpR (op_eqD hr.units) (pe_callB call_LENSET (by rfl) T.b.len (by decide +kernel) (pa_cons (pe_callTy (call_SET rfl) (by rfl) T.b.set (by decide +kernel) (pa_cons (pv 6) pa_nil)) pa_nil)) (pe_callB call_LEN (by rfl) T.b.len (by decide +kernel) (pa_cons (pv 6) pa_nil)) (nomark _)))))))), body h rfl ((ss_seq (ss_asg (sd_lst 1 (len_cons len_nil) (by decide) (sd_cons sd_var sd_nil)) sg_name)
    (ss_seq (ss_for (si_list (sd_fld T.cl T.na_tasks sd_var)) sg_name (ss_seq (ss_if (sd_or (sd_not (sd_test (sd_chain sr_le sr_lt sd_int sd_var (sd_cb sc_len (sd_cons sd_var sd_nil))))) (sd_test (sd_op sr_ne (sd_op sr_ix sd_var sd_var) (sd_op sr_ix sd_var (sd_neg sd_int))))) (ss_ret sd_bl) ss_next)
    (ss_expr (sd_bm sm_append sd_var (sd_cons (sd_call (sd_cons (sd_op sr_ix sd_var sd_var) (sd_cons (sd_op sr_ix sd_var (sd_neg sd_int)) sd_nil))) sd_nil)))))
    (ss_ret (sd_andV (sd_op sr_eq (sd_op sr_ix sd_var (sd_neg sd_int)) sd_var) (sd_op sr_eq (sd_lenSet (sd_cons sd_var sd_nil)) (sd_cb sc_len (sd_cons sd_var sd_nil))))))))⟩)

abbrev s_Side_init : Stmt := inClass (top 23) 0
theorem sc_Side_init : FnScope ["self", "some"] ["self", "some"] (defScope s_Side_init) := ⟨rfl, rfl, rfl, by decide +kernel, rfl, by decide +kernel, by decide +kernel⟩
theorem ok_Side_init {f : Addr} {fd : FuncData} (F : Fun g.K "__init__" "Side.__init__" s_Side_init f fd) (T : Tx g mg) : FnOk P w g.K mg base CX0 1 f fd ["self", "some"] (iSp g i_Side_init) :=
  F.ok sc_Side_init (iSp_len rfl) (fun cdv AA outer s H vs Q E hr h => ⟨_, (pss_one (ps_fld (pv 0) (pe_callTy call_LIST (by rfl) T.b.list (by decide +kernel) (pa_cons (pv 1) pa_nil)) rfl)), body h rfl ((ss_fld T.cl T.na_some sd_var (sd_cb sc_list (sd_cons sd_var sd_nil))))⟩)

abbrev s_Side_shows : Stmt := inClass (top 23) 1
theorem sc_Side_shows : FnScope ["self", "people", "tasks", "sharing", "one", "other", "out", "at", "who"] ["self", "people", "tasks", "sharing", "one", "other"] (defScope s_Side_shows) := ⟨rfl, rfl, rfl, by decide +kernel, rfl, by decide +kernel, by decide +kernel⟩
theorem ok_Side_shows {f : Addr} {fd : FuncData} (F : Fun g.K "shows" "Side.shows" s_Side_shows f fd) (T : Tx g mg) (c_are_people : Cal P w g.K mg base CX0 1 "are_people" ["some", "people"] (iSp g i_are_people)) (c_second_of : Cal P w g.K mg base CX0 1 "second_of" ["task", "who"] (iSp g i_second_of)) : FnOk P w g.K mg base CX0 2 f fd ["self", "people", "tasks", "sharing", "one", "other"] (iSp g i_Side_shows) :=
  F.ok sc_Side_shows (iSp_len rfl) (fun cdv AA outer s H vs Q E hr h => ⟨_, (pss_cons (ps_if (pw_or (pt_not (pt_truth (pe_cal c_are_people (hr.mono (by decide)) (by rfl) (pa_cons (pe_fld (pv 0) rfl) (pa_cons (pv 1) pa_nil))) (fun _ => rfl))) (pw_or (pt_cmpR op_notIn_seq (pv 4) (pe_fld (pv 0) rfl) rfl) (pw_or1 (pt_cmpR op_in_seq (pv 5) (pe_fld (pv 0) rfl) rfl)))).pt (pss_one (ps_ret pe_bl)) pss_nil)
    (pss_cons (ps_setLc (i := 6) (own := [("at", 7), ("who", 8)]) (by rfl) sc_Side_shows.nd rfl rfl (sw_true rfl rfl rfl (by decide +kernel)) (pi_enum (by rfl) T.b.enumerate (pa_cons (pv 3) pa_nil)) (blkOk_by (own := [("at", 7), ("who", 8)]) (N := ["self", "people", "tasks", "sharing", "one", "other", "out", "at", "who"]) (sc := defScope s_Side_shows) (by decide +kernel)) (fun _ _ _ _ _ => (pg_tup rfl (pgs_cons (pg_name (i := 7) sc_Side_shows.nd rfl (by first | exact Or.inl rfl | exact Or.inr rfl)) (pgs_cons (pg_name (i := 8) sc_Side_shows.nd rfl (by first | exact Or.inl rfl | exact Or.inr rfl)) pgs_nil)))) (fun _ _ _ _ _ => (pts_one (pw_and (pt_cmpR op_in_seq (pv 8) (pe_fld (pv 0) rfl) rfl) (pw_and1 (pt_cmpR op_notIn_seq (pe_cal c_second_of (hr.mono (by decide)) (by rfl) (pa_cons (pe_ix ix_seq (pv 2) (pv 7) (fun _ _ => rfl)) (pa_cons (pv 8) pa_nil))) (pe_fld (pv 0) rfl) rfl))).pt)) (fun _ _ _ _ _ => (pv 7)))
    (pss_one (ps_ret (pe_cmpR (op_eqD hr.units) (pv 6) (pe_lst pa_nil) (nomark _)))))), body h rfl ((ss_seq (ss_if (sd_or (sd_not (sd_tru (sd_call (sd_cons (sd_fld T.cl T.na_some sd_var) (sd_cons sd_var sd_nil))))) (sd_or (sd_test (sd_op sr_in sd_var (sd_fld T.cl T.na_some sd_var))) (sd_test (sd_op sr_in sd_var (sd_fld T.cl T.na_some sd_var))))) (ss_ret sd_bl) ss_next)
    (ss_seq (ss_asg (sd_lc (si_enum sd_var) (sg_tup (sgs_cons sg_name (sgs_cons sg_name sgs_nil))) (wp_tup (wps_cons (by simp) (wps_cons (by simp) wps_nil))) (sd_and (sd_test (sd_op sr_in sd_var (sd_fld T.cl T.na_some sd_var))) (sd_test (sd_op sr_in (sd_call (sd_cons (sd_op sr_ix sd_var sd_var) (sd_cons sd_var sd_nil))) (sd_fld T.cl T.na_some sd_var)))) sd_var) sg_name)
    (ss_ret (sd_op sr_eq sd_var (sd_lst 0 len_nil (by decide) sd_nil))))))⟩)

abbrev s_came_from : Stmt := top 25
theorem sc_came_from : FnScope ["tasks", "sharing", "begins", "came", "one", "waiting", "at", "here", "task", "who"] ["tasks", "sharing", "begins"] (defScope s_came_from) := ⟨rfl, rfl, rfl, by decide +kernel, rfl, by decide +kernel, by decide +kernel⟩
theorem ok_came_from {f : Addr} {fd : FuncData} (F : Fun g.K "came_from" "came_from" s_came_from f fd) (T : Tx g mg) (c_second_of : Cal P w g.K mg base CX0 1 "second_of" ["task", "who"] (iSp g i_second_of)) : FnOk P w g.K mg base CX0 2 f fd ["tasks", "sharing", "begins"] (iSp g i_came_from) :=
  F.ok sc_came_from (iSp_len rfl) (fun cdv AA outer s H vs Q E hr h => ⟨_, (pss_cons (ps_set (i := 3) sc_came_from.nd rfl (by first | exact Or.inl rfl | exact Or.inr rfl) pe_dnewK)
    (pss_cons (ps_for PassesOwn.never (by rfl) (pi_list (pv 2)) (pg_name (i := 4) sc_came_from.nd rfl (by first | exact Or.inl rfl | exact Or.inr rfl)) (pss_one (ps_dput (hu_of hr) (pv 3) (pv 4) (pe_un un_neg pe_int) rfl)))
    (pss_cons (ps_set (i := 5) sc_came_from.nd rfl (by first | exact Or.inl rfl | exact Or.inr rfl) (pe_callTy call_LIST (by rfl) T.b.list (by decide +kernel) (pa_cons (pv 2) pa_nil)))
    (pss_cons (ps_set (i := 6) sc_came_from.nd rfl (by first | exact Or.inl rfl | exact Or.inr rfl) pe_int)
    (pss_cons (ps_while PassesOwn.never (pt_cmpR op_lt (pv 6) (pe_callB call_LEN (by rfl) T.b.len (by decide +kernel) (pa_cons (pv 5) pa_nil)) (nomark _)) (pss_cons (ps_set (i := 7) sc_came_from.nd rfl (by first | exact Or.inl rfl | exact Or.inr rfl) (pe_ix ix_seq (pv 5) (pv 6) (fun _ _ => rfl)))
    (pss_cons (ps_aug (i := 6) sc_came_from.nd rfl (by first | exact Or.inl rfl | exact Or.inr rfl) pe_int ip_add)
    (pss_one (ps_for PassesOwn.never (by rfl) (pi_enum (by rfl) T.b.enumerate (pa_cons (pv 1) pa_nil)) (pg_tup rfl (pgs_cons (pg_name (i := 8) sc_came_from.nd rfl (by first | exact Or.inl rfl | exact Or.inr rfl)) (pgs_cons (pg_name (i := 9) sc_came_from.nd rfl (by first | exact Or.inl rfl | exact Or.inr rfl)) pgs_nil))) (pss_one (ps_if (pw_and (pt_cmpR (op_eqD hr.units) (pv 9) (pv 7) (nomark _)) (pw_and1 (pt_cmp (pc_dnotin (hu_of hr) (pe_cal c_second_of (hr.mono (by decide)) (by rfl) (pa_cons (pe_ix ix_seq (pv 0) (pv 8) (fun _ _ => rfl)) (pa_cons (pv 7) pa_nil))) (pv 3)) rfl))).pt (pss_cons (ps_dput (hu_of hr) (pv 3) (pe_cal c_second_of (hr.mono (by decide)) (by rfl) (pa_cons (pe_ix ix_seq (pv 0) (pv 8) (fun _ _ => rfl)) (pa_cons (pv 7) pa_nil))) (pv 8) rfl)
    (pss_one (ps_expr (pe_bm PySem.F.plainAttrs_list PySem.F.slot_list_append PySem.F.type_list_append mt_append (pv 5) (pa_cons (pe_cal c_second_of (hr.mono (by decide)) (by rfl) (pa_cons (pe_ix ix_seq (pv 0) (pv 8) (fun _ _ => rfl)) (pa_cons (pv 7) pa_nil))) pa_nil))))) pss_nil)))))))
    (pss_one (ps_ret (pv 3)))))))), body h rfl ((ss_seq (ss_asg sd_dnew sg_name)
    (ss_seq (ss_for (si_list sd_var) sg_name (ss_dset sd_var sd_var (sd_neg sd_int)))
    (ss_seq (ss_asg (sd_cb sc_list (sd_cons sd_var sd_nil)) sg_name)
    (ss_seq (ss_asg sd_int sg_name)
    (ss_seq (ss_while (sd_test (sd_op sr_lt sd_var (sd_cb sc_len (sd_cons sd_var sd_nil)))) (ss_seq (ss_asg (sd_op sr_ix sd_var sd_var) sg_name)
    (ss_seq (ss_aug sd_int)
    (ss_for (si_enum sd_var) (sg_tup (sgs_cons sg_name (sgs_cons sg_name sgs_nil))) (ss_if (sd_and (sd_test (sd_op sr_eq sd_var sd_var)) (sd_tB (sd_dni (sd_call (sd_cons (sd_op sr_ix sd_var sd_var) (sd_cons sd_var sd_nil))) sd_var))) (ss_seq (ss_dset sd_var (sd_call (sd_cons (sd_op sr_ix sd_var sd_var) (sd_cons sd_var sd_nil))) sd_var)
    (ss_expr (sd_bm sm_append sd_var (sd_cons (sd_call (sd_cons (sd_op sr_ix sd_var sd_var) (sd_cons sd_var sd_nil))) sd_nil)))) ss_next)))))
    (ss_ret sd_var)))))))⟩)

abbrev s_chain_to : Stmt := top 26
theorem sc_chain_to : FnScope ["tasks", "came", "person", "found"] ["tasks", "came", "person"] (defScope s_chain_to) := ⟨rfl, rfl, rfl, by decide +kernel, rfl, by decide +kernel, by decide +kernel⟩
theorem ok_chain_to {f : Addr} {fd : FuncData} (F : Fun g.K "chain_to" "chain_to" s_chain_to f fd) (T : Tx g mg) (c_second_of : Cal P w g.K mg base CX0 1 "second_of" ["task", "who"] (iSp g i_second_of)) : FnOk P w g.K mg base CX0 2 f fd ["tasks", "came", "person"] (iSp g i_chain_to) :=
  F.ok sc_chain_to (iSp_len rfl) (fun cdv AA outer s H vs Q E hr h => ⟨_, (pss_cons (ps_set (i := 3) sc_chain_to.nd rfl (by first | exact Or.inl rfl | exact Or.inr rfl) (pe_lst pa_nil))
    (pss_cons (ps_while PassesOwn.never (pt_cmpR op_ge (pe_dget (hu_of hr) (pv 1) (pv 2) (fun _ _ => rfl)) pe_int (nomark _)) (pss_cons (ps_expr (pe_bm PySem.F.plainAttrs_list PySem.F.slot_list_append PySem.F.type_list_append mt_append (pv 3) (pa_cons (pe_dget (hu_of hr) (pv 1) (pv 2) (fun _ _ => rfl)) pa_nil)))
    (pss_one (ps_set (i := 2) sc_chain_to.nd rfl (by first | exact Or.inl rfl | exact Or.inr rfl) (pe_cal c_second_of (hr.mono (by decide)) (by rfl) (pa_cons (pe_ix ix_seq (pv 0) (pe_dget (hu_of hr) (pv 1) (pv 2) (fun _ _ => rfl)) (fun _ _ => rfl)) (pa_cons (pv 2) pa_nil)))))))
    (pss_one (ps_ret (pe_revL (pv 3)))))), body h rfl ((ss_seq (ss_asg (sd_lst 0 len_nil (by decide) sd_nil) sg_name)
    (ss_seq (ss_while (sd_test (sd_op sr_ge (sd_dget sd_var sd_var) sd_int)) (ss_seq (ss_expr (sd_bm sm_append sd_var (sd_cons (sd_dget sd_var sd_var) sd_nil)))
    (ss_asg (sd_call (sd_cons (sd_op sr_ix sd_var (sd_dget sd_var sd_var)) (sd_cons sd_var sd_nil))) sg_name)))
    (ss_ret (sd_rev sd_var)))))⟩)

abbrev s_passed : Stmt := top 28
theorem sc_passed : FnScope ["people", "tasks", "sharing", "one", "other", "person", "came"] ["people", "tasks", "sharing", "one", "other"] (defScope s_passed) := ⟨rfl, rfl, rfl, by decide +kernel, rfl, by decide +kernel, by decide +kernel⟩
theorem ok_passed {f : Addr} {fd : FuncData} (F : Fun g.K "passed" "passed" s_passed f fd) (T : Tx g mg) (c_check_tasks : Cal P w g.K mg base CX0 3 "check_tasks" ["people", "tasks"] (iSp g i_check_tasks)) (c_check_sharing : Cal P w g.K mg base CX0 3 "check_sharing" ["tasks", "sharing"] (iSp g i_check_sharing)) (c_came_from : Cal P w g.K mg base CX0 2 "came_from" ["tasks", "sharing", "begins"] (iSp g i_came_from)) (m_Chain : Mkc P w g.K mg base 1 "Chain" (g.γ "Chain") ["self", "tasks"] (iSp g i_Chain_init)) (m_Side : Mkc P w g.K mg base 1 "Side" (g.γ "Side") ["self", "some"] (iSp g i_Side_init)) (c_chain_to : Cal P w g.K mg base CX0 2 "chain_to" ["tasks", "came", "person"] (iSp g i_chain_to)) (c_is_number : Cal P w g.K mg base CX0 1 "is_number" ["thing", "least"] (iSp g i_is_number)) : FnOk P w g.K mg base CX0 4 f fd ["people", "tasks", "sharing", "one", "other"] (iSp g i_passed) :=
  F.ok sc_passed (iSp_len rfl) (fun cdv AA outer s H vs Q E hr h => ⟨_, (pss_cons (ps_expr (pe_cal c_check_tasks (hr.mono (by decide)) (by rfl) (pa_cons (pv 0) (pa_cons (pv 1) pa_nil))))
    (pss_cons (ps_expr (pe_cal c_check_sharing (hr.mono (by decide)) (by rfl) (pa_cons (pv 1) (pa_cons (pv 2) pa_nil))))
    (pss_cons (ps_for PassesOwn.never (by rfl) (pi_tup (pe_tup (pa_cons (pv 3) (pa_cons (pv 4) pa_nil)))) (pg_name (i := 5) sc_passed.nd rfl (by first | exact Or.inl rfl | exact Or.inr rfl)) (pss_one (ps_if (pw_or (pt_not (pt_truth (pe_cal c_is_number (hr.mono (by decide)) (by rfl) (pa_cons (pv 5) (pa_cons pe_int pa_nil))) (fun _ => rfl))) (pw_or1 (pt_cmpR op_ge (pv 5) (pv 0) (nomark _)))).pt (pss_one ps_dead) pss_nil)))
    (pss_cons (ps_if (pt_cmpR (op_eqD hr.units) (pv 3) (pv 4) (nomark _)) (pss_one ps_dead) pss_nil)
    (pss_cons (ps_set (i := 6) sc_passed.nd rfl (by first | exact Or.inl rfl | exact Or.inr rfl) (pe_cal c_came_from (hr.mono (by decide)) (by rfl) (pa_cons (pv 1) (pa_cons (pv 2) (pa_cons (pe_lst (pa_cons (pv 3) pa_nil)) pa_nil)))))
    (pss_cons (ps_if (pt_cmp (pc_dnotin (hu_of hr) (pv 4) (pv 6)) rfl) (pss_one (ps_ret (pe_mkc m_Side (hr.mono (by decide)) (by rfl) (pa_cons (pe_callB (call_SORTD rfl) (by rfl) T.b.sorted (by decide +kernel) (pa_cons (pv 6) pa_nil)) pa_nil)))) pss_nil)
    (pss_one (ps_ret (pe_mkc m_Chain (hr.mono (by decide)) (by rfl) (pa_cons (pe_cal c_chain_to (hr.mono (by decide)) (by rfl) (pa_cons (pv 1) (pa_cons (pv 6) (pa_cons (pv 4) pa_nil)))) pa_nil)))))))))), body h rfl ((ss_seq (ss_expr (sd_call (sd_cons sd_var (sd_cons sd_var sd_nil))))
    (ss_seq (ss_expr (sd_call (sd_cons sd_var (sd_cons sd_var sd_nil))))
    (ss_seq (ss_for (si_tup (sd_tup 2 (len_cons (len_cons len_nil)) (by decide) (sd_cons sd_var (sd_cons sd_var sd_nil)))) sg_name (ss_if (sd_or (sd_not (sd_tru (sd_call (sd_cons sd_var (sd_cons sd_int sd_nil))))) (sd_test (sd_op sr_ge sd_var sd_var))) ss_dead ss_next))
    (ss_seq (ss_if (sd_test (sd_op sr_eq sd_var sd_var)) ss_dead ss_next)
    (ss_seq (ss_asg (sd_call (sd_cons sd_var (sd_cons sd_var (sd_cons (sd_lst 1 (len_cons len_nil) (by decide) (sd_cons sd_var sd_nil)) sd_nil)))) sg_name)
    (ss_seq (ss_if (sd_tB (sd_dni sd_var sd_var)) (ss_ret (sd_make rfl (sd_cons (sd_cb sc_sortedD (sd_cons sd_var sd_nil)) sd_nil))) ss_next)
    (ss_ret (sd_make rfl (sd_cons (sd_call (sd_cons sd_var (sd_cons sd_var (sd_cons sd_var sd_nil)))) sd_nil))))))))))⟩)

abbrev s__law_number : Stmt := top 30
theorem sc__law_number : FnScope ["_law_cell", "_law_at", "_law_whole", "_law_mixed", "_law_more"] ["_law_cell", "_law_at", "_law_whole"] (defScope s__law_number) := ⟨rfl, rfl, rfl, by decide +kernel, rfl, by decide +kernel, by decide +kernel⟩
theorem ok__law_number {f : Addr} {fd : FuncData} (F : Fun g.K "_law_number" "_law_number" s__law_number f fd) (T : Tx g mg) : FnOk P w g.K mg base CX0 1 f fd ["_law_cell", "_law_at", "_law_whole"] (iSp g i__law_number) :=
  F.ok sc__law_number (iSp_len rfl) (fun cdv AA outer s H vs Q E hr h => ⟨_, (pss_cons (ps_if (pt_cmpR op_ge (pv 0) (pe_op op_pow pe_int pe_int) (nomark _)) (pss_one (ps_ret (pv 0))) pss_nil)
    (pss_cons (ps_set (i := 3) sc__law_number.nd rfl (by first | exact Or.inl rfl | exact Or.inr rfl) (pe_op op_mod (pe_op op_ADD (pe_op op_MUL (pe_op op_ADD (pv 0) (pe_op op_MUL pe_int (pv 1))) pe_int) (pv 2)) pe_int))
    (pss_cons (ps_set (i := 4) sc__law_number.nd rfl (by first | exact Or.inl rfl | exact Or.inr rfl) (pe_op op_MUL (pe_op op_MUL (pv 3) (pe_op op_ADD (pe_op op_ADD (pv 3) (pe_op op_MUL pe_int (pv 1))) pe_int)) (pe_op op_ADD (pe_op op_ADD (pv 3) (pv 0)) pe_int)))
    (pss_one (ps_ret (pe_op op_fdiv (pe_op op_MUL (pv 4) (pe_op op_ADD (pv 4) pe_int)) pe_int)))))), body h rfl ((ss_seq (ss_if (sd_test (sd_op sr_ge sd_var (sd_op sr_pow sd_int sd_int))) (ss_ret sd_var) ss_next)
    (ss_seq (ss_asg (sd_op sr_mod (sd_op sr_add (sd_op sr_mul (sd_op sr_add sd_var (sd_op sr_mul sd_int sd_var)) sd_int) sd_var) sd_int) sg_name)
    (ss_seq (ss_asg (sd_op sr_mul (sd_op sr_mul sd_var (sd_op sr_add (sd_op sr_add sd_var (sd_op sr_mul sd_int sd_var)) sd_int)) (sd_op sr_add (sd_op sr_add sd_var sd_var) sd_int)) sg_name)
    (ss_ret (sd_op sr_div (sd_op sr_mul sd_var (sd_op sr_add sd_var sd_int)) sd_int))))))⟩)

abbrev s__law_tasks : Stmt := top 31
theorem sc__law_tasks : FnScope ["_law_script", "_law_cells", "_law_whole", "_law_people_here", "_law_found", "_law_at", "_law_cell", "_law_number_here", "_law_one", "_law_other"] ["_law_script"] (defScope s__law_tasks) := ⟨rfl, rfl, rfl, by decide +kernel, rfl, by decide +kernel, by decide +kernel⟩
theorem ok__law_tasks {f : Addr} {fd : FuncData} (F : Fun g.K "_law_tasks" "_law_tasks" s__law_tasks f fd) (T : Tx g mg) (c__law_number : Cal P w g.K mg base CX0 1 "_law_number" ["_law_cell", "_law_at", "_law_whole"] (iSp g i__law_number)) : FnOk P w g.K mg base CX0 2 f fd ["_law_script"] (iSp g i__law_tasks) :=
  F.ok sc__law_tasks (iSp_len rfl) (fun cdv AA outer s H vs Q E hr h => ⟨_, (pss_cons (ps_set (i := 1) sc__law_tasks.nd rfl (by first | exact Or.inl rfl | exact Or.inr rfl) (pe_slice sl_list (pv 0) po_none (po_some pe_int)))
    (pss_cons (ps_set (i := 2) sc__law_tasks.nd rfl (by first | exact Or.inl rfl | exact Or.inr rfl) (pe_callB (cr_sum rfl) (by rfl) T.b.sum (by decide +kernel) (pa_cons (pv 1) pa_nil)))
    (pss_cons (ps_set (i := 3) sc__law_tasks.nd rfl (by first | exact Or.inl rfl | exact Or.inr rfl) (pe_ix ix_seq (pe_tup (pa_cons pe_int (pa_cons pe_int (pa_cons pe_int (pa_cons pe_int (pa_cons pe_int (pa_cons pe_int (pa_cons pe_int (pa_cons (pe_callB (call_MAX rfl) (by rfl) T.b.max (by decide +kernel) (pa_cons pe_int (pa_cons (pe_op op_fdiv (pe_op op_MUL (pe_callB call_LEN (by rfl) T.b.len (by decide +kernel) (pa_cons (pv 1) pa_nil)) pe_int) pe_int) pa_nil))) pa_nil))))))))) (pe_op op_mod (pe_op op_fdiv (pv 2) pe_int) pe_int) (fun _ _ => rfl)))
    (pss_cons (ps_set (i := 4) sc__law_tasks.nd rfl (by first | exact Or.inl rfl | exact Or.inr rfl) (pe_lst pa_nil))
    (pss_cons (ps_for PassesOwn.never (by rfl) (pi_enum (by rfl) T.b.enumerate (pa_cons (pv 1) pa_nil)) (pg_tup rfl (pgs_cons (pg_name (i := 5) sc__law_tasks.nd rfl (by first | exact Or.inl rfl | exact Or.inr rfl)) (pgs_cons (pg_name (i := 6) sc__law_tasks.nd rfl (by first | exact Or.inl rfl | exact Or.inr rfl)) pgs_nil))) (pss_cons (ps_set (i := 7) sc__law_tasks.nd rfl (by first | exact Or.inl rfl | exact Or.inr rfl) (pe_cal c__law_number (hr.mono (by decide)) (by rfl) (pa_cons (pv 6) (pa_cons (pv 5) (pa_cons (pv 2) pa_nil)))))
    (pss_cons (ps_set (i := 8) sc__law_tasks.nd rfl (by first | exact Or.inl rfl | exact Or.inr rfl) (pe_op op_mod (pv 7) (pv 3)))
    (pss_cons (ps_if (pt_cmpR (op_eqD hr.units) (pe_op op_mod (pe_op op_fdiv (pv 2) pe_int) pe_int) pe_int (nomark _)) (pss_one (ps_set (i := 8) sc__law_tasks.nd rfl (by first | exact Or.inl rfl | exact Or.inr rfl) (pe_op op_mod (pe_op op_mod (pv 7) pe_int) (pv 3)))) pss_nil)
    (pss_cons (ps_set (i := 9) sc__law_tasks.nd rfl (by first | exact Or.inl rfl | exact Or.inr rfl) (pe_op op_mod (pe_op op_ADD (pe_op op_ADD (pv 8) pe_int) (pe_op op_mod (pe_op op_fdiv (pv 7) (pv 3)) (pe_op op_sub (pv 3) pe_int))) (pv 3)))
    (pss_cons (ps_if (pt_cmpR (op_eqD hr.units) (pe_op op_mod (pe_op op_fdiv (pv 2) pe_int) pe_int) pe_int (nomark _)) (pss_one (ps_set (i := 9) sc__law_tasks.nd rfl (by first | exact Or.inl rfl | exact Or.inr rfl) (pe_op op_mod (pe_op op_ADD (pv 8) pe_int) (pv 3)))) pss_nil)
    (pss_cons (ps_if (pt_cmpR (op_eqD hr.units) (pe_op op_mod (pe_op op_fdiv (pv 2) pe_int) pe_int) pe_int (nomark _)) (pss_one (ps_par (i := 8) (j := 9) (by rfl) sc__law_tasks.nd rfl rfl (by decide) rfl rfl (pa_cons (pe_op op_mod (pv 5) (pv 3)) (pa_cons (pe_op op_mod (pe_op op_ADD (pv 5) pe_int) (pv 3)) pa_nil)) rfl)) pss_nil)
    (pss_one (ps_expr (pe_bm PySem.F.plainAttrs_list PySem.F.slot_list_append PySem.F.type_list_append mt_append (pv 4) (pa_cons (pe_tup (pa_cons (pe_callB (call_MIN rfl) (by rfl) T.b.min (by decide +kernel) (pa_cons (pv 8) (pa_cons (pv 9) pa_nil))) (pa_cons (pe_callB (call_MAX rfl) (by rfl) T.b.max (by decide +kernel) (pa_cons (pv 8) (pa_cons (pv 9) pa_nil))) pa_nil))) pa_nil)))))))))))
    (pss_one (ps_ret (pe_tup (pa_cons (pv 3) (pa_cons (pv 4) pa_nil)))))))))), body h rfl ((ss_seq (ss_asg (sd_sl sd_var so_none (so_some sd_int)) sg_name)
    (ss_seq (ss_asg (sd_cb sc_sum (sd_cons sd_var sd_nil)) sg_name)
    (ss_seq (ss_asg (sd_op sr_ix (sd_tup 8 (len_cons (len_cons (len_cons (len_cons (len_cons (len_cons (len_cons (len_cons len_nil)))))))) (by decide) (sd_cons sd_int (sd_cons sd_int (sd_cons sd_int (sd_cons sd_int (sd_cons sd_int (sd_cons sd_int (sd_cons sd_int (sd_cons (sd_cb sc_max (sd_cons sd_int (sd_cons (sd_op sr_div (sd_op sr_mul (sd_cb sc_len (sd_cons sd_var sd_nil)) sd_int) sd_int) sd_nil))) sd_nil))))))))) (sd_op sr_mod (sd_op sr_div sd_var sd_int) sd_int)) sg_name)
    (ss_seq (ss_asg (sd_lst 0 len_nil (by decide) sd_nil) sg_name)
    (ss_seq (ss_for (si_enum sd_var) (sg_tup (sgs_cons sg_name (sgs_cons sg_name sgs_nil))) (ss_seq (ss_asg (sd_call (sd_cons sd_var (sd_cons sd_var (sd_cons sd_var sd_nil)))) sg_name)
    (ss_seq (ss_asg (sd_op sr_mod sd_var sd_var) sg_name)
    (ss_seq (ss_if (sd_test (sd_op sr_eq (sd_op sr_mod (sd_op sr_div sd_var sd_int) sd_int) sd_int)) (ss_asg (sd_op sr_mod (sd_op sr_mod sd_var sd_int) sd_var) sg_name) ss_next)
    (ss_seq (ss_asg (sd_op sr_mod (sd_op sr_add (sd_op sr_add sd_var sd_int) (sd_op sr_mod (sd_op sr_div sd_var sd_var) (sd_op sr_sub sd_var sd_int))) sd_var) sg_name)
    (ss_seq (ss_if (sd_test (sd_op sr_eq (sd_op sr_mod (sd_op sr_div sd_var sd_int) sd_int) sd_int)) (ss_asg (sd_op sr_mod (sd_op sr_add sd_var sd_int) sd_var) sg_name) ss_next)
    (ss_seq (ss_if (sd_test (sd_op sr_eq (sd_op sr_mod (sd_op sr_div sd_var sd_int) sd_int) sd_int)) (ss_par (sd_cons (sd_op sr_mod sd_var sd_var) (sd_cons (sd_op sr_mod (sd_op sr_add sd_var sd_int) sd_var) sd_nil))) ss_next)
    (ss_expr (sd_bm sm_append sd_var (sd_cons (sd_tup 2 (len_cons (len_cons len_nil)) (by decide) (sd_cons (sd_cb sc_min (sd_cons sd_var (sd_cons sd_var sd_nil))) (sd_cons (sd_cb sc_max (sd_cons sd_var (sd_cons sd_var sd_nil))) sd_nil))) sd_nil))))))))))
    (ss_ret (sd_tup 2 (len_cons (len_cons len_nil)) (by decide) (sd_cons sd_var (sd_cons sd_var sd_nil))))))))))⟩)

abbrev s__law_sharing : Stmt := top 32
theorem sc__law_sharing : FnScope ["_law_script", "_law_tasks_here", "_law_by", "_law_cells", "_law_whole", "_law_found", "_law_at", "_law_task", "_law_number_here"] ["_law_script", "_law_tasks_here", "_law_by"] (defScope s__law_sharing) := ⟨rfl, rfl, rfl, by decide +kernel, rfl, by decide +kernel, by decide +kernel⟩
theorem ok__law_sharing {f : Addr} {fd : FuncData} (F : Fun g.K "_law_sharing" "_law_sharing" s__law_sharing f fd) (T : Tx g mg) (c__law_number : Cal P w g.K mg base CX0 1 "_law_number" ["_law_cell", "_law_at", "_law_whole"] (iSp g i__law_number)) : FnOk P w g.K mg base CX0 2 f fd ["_law_script", "_law_tasks_here", "_law_by"] (iSp g i__law_sharing) :=
  F.ok sc__law_sharing (iSp_len rfl) (fun cdv AA outer s H vs Q E hr h => ⟨_, (pss_cons (ps_set (i := 3) sc__law_sharing.nd rfl (by first | exact Or.inl rfl | exact Or.inr rfl) (pe_slice sl_list (pv 0) po_none (po_some pe_int)))
    (pss_cons (ps_set (i := 4) sc__law_sharing.nd rfl (by first | exact Or.inl rfl | exact Or.inr rfl) (pe_callB (cr_sum rfl) (by rfl) T.b.sum (by decide +kernel) (pa_cons (pv 3) pa_nil)))
    (pss_cons (ps_set (i := 5) sc__law_sharing.nd rfl (by first | exact Or.inl rfl | exact Or.inr rfl) (pe_lst pa_nil))
    (pss_cons (ps_for PassesOwn.never (by rfl) (pi_enum (by rfl) T.b.enumerate (pa_cons (pv 1) pa_nil)) (pg_tup rfl (pgs_cons (pg_name (i := 6) sc__law_sharing.nd rfl (by first | exact Or.inl rfl | exact Or.inr rfl)) (pgs_cons (pg_name (i := 7) sc__law_sharing.nd rfl (by first | exact Or.inl rfl | exact Or.inr rfl)) pgs_nil))) (pss_cons (ps_set (i := 8) sc__law_sharing.nd rfl (by first | exact Or.inl rfl | exact Or.inr rfl) (pe_cal c__law_number (hr.mono (by decide)) (by rfl) (pa_cons (pe_ix ix_seq (pv 3) (pv 6) (fun _ _ => rfl)) (pa_cons (pe_op op_ADD (pv 6) (pe_op op_MUL pe_int (pv 2))) (pa_cons (pv 4) pa_nil)))))
    (pss_one (ps_expr (pe_bm PySem.F.plainAttrs_list PySem.F.slot_list_append PySem.F.type_list_append mt_append (pv 5) (pa_cons (pe_ix ix_seq (pv 7) (pe_op op_mod (pe_op op_fdiv (pv 8) (pe_ix ix_seq (pe_tup (pa_cons pe_int (pa_cons pe_int pa_nil))) (pv 2) (fun _ _ => rfl))) pe_int) (fun _ _ => rfl)) pa_nil))))))
    (pss_one (ps_ret (pv 5))))))), body h rfl ((ss_seq (ss_asg (sd_sl sd_var so_none (so_some sd_int)) sg_name)
    (ss_seq (ss_asg (sd_cb sc_sum (sd_cons sd_var sd_nil)) sg_name)
    (ss_seq (ss_asg (sd_lst 0 len_nil (by decide) sd_nil) sg_name)
    (ss_seq (ss_for (si_enum sd_var) (sg_tup (sgs_cons sg_name (sgs_cons sg_name sgs_nil))) (ss_seq (ss_asg (sd_call (sd_cons (sd_op sr_ix sd_var sd_var) (sd_cons (sd_op sr_add sd_var (sd_op sr_mul sd_int sd_var)) (sd_cons sd_var sd_nil)))) sg_name)
    (ss_expr (sd_bm sm_append sd_var (sd_cons (sd_op sr_ix sd_var (sd_op sr_mod (sd_op sr_div sd_var (sd_op sr_ix (sd_tup 2 (len_cons (len_cons len_nil)) (by decide) (sd_cons sd_int (sd_cons sd_int sd_nil))) sd_var)) sd_int)) sd_nil)))))
    (ss_ret sd_var))))))⟩)

abbrev s__law_loads : Stmt := top 33
theorem sc__law_loads : FnScope ["_law_people_here", "_law_sharing_here", "_law_found", "_law_who"] ["_law_people_here", "_law_sharing_here"] (defScope s__law_loads) := ⟨rfl, rfl, rfl, by decide +kernel, rfl, by decide +kernel, by decide +kernel⟩
theorem ok__law_loads {f : Addr} {fd : FuncData} (F : Fun g.K "_law_loads" "_law_loads" s__law_loads f fd) (T : Tx g mg) : FnOk P w g.K mg base CX0 1 f fd ["_law_people_here", "_law_sharing_here"] (iSp g i__law_loads) :=
  F.ok sc__law_loads (iSp_len rfl) (fun cdv AA outer s H vs Q E hr h => ⟨_, (pss_cons (ps_set (i := 2) sc__law_loads.nd rfl (by first | exact Or.inl rfl | exact Or.inr rfl) (pe_op op_MUL (pe_lst (pa_cons pe_int pa_nil)) (pv 0)))
    (pss_cons (ps_for PassesOwn.never (by rfl) (pi_list (pv 1)) (pg_name (i := 3) sc__law_loads.nd rfl (by first | exact Or.inl rfl | exact Or.inr rfl)) (pss_one (ps_asg (pe_op op_ADD (pe_ix ix_seq (pv 2) (pv 3) (fun _ _ => rfl)) pe_int) (pg_sub (pv 2) (pv 3) set_list))))
    (pss_one (ps_ret (pv 2))))), body h rfl ((ss_seq (ss_asg (sd_op sr_mul (sd_lst 1 (len_cons len_nil) (by decide) (sd_cons sd_int sd_nil)) sd_var) sg_name)
    (ss_seq (ss_for (si_list sd_var) sg_name (ss_asg (sd_op sr_add (sd_op sr_ix sd_var sd_var) sd_int) (sg_sub sd_var sd_var)))
    (ss_ret sd_var))))⟩)

abbrev s__law_wholes : Stmt := top 34
theorem sc__law_wholes : FnScope ["_law_found", "_law_one"] ["_law_found"] (defScope s__law_wholes) := ⟨rfl, rfl, rfl, by decide +kernel, rfl, by decide +kernel, by decide +kernel⟩
theorem ok__law_wholes {f : Addr} {fd : FuncData} (F : Fun g.K "_law_wholes" "_law_wholes" s__law_wholes f fd) (T : Tx g mg) : FnOk P w g.K mg base CX0 1 f fd ["_law_found"] (iSp g i__law_wholes) :=
  F.ok sc__law_wholes (iSp_len rfl) (fun cdv AA outer s H vs Q E hr h => ⟨_, (pss_cons (ps_if (pt_not (pt_truth (pe_callB call_isi (by rfl) T.b.isinstance (by decide +kernel) (pa_cons (pv 0) (pa_cons (pe_bltn (v := .ty "list") (by rfl) T.b.list (by decide +kernel) rfl) pa_nil))) (fun _ => rfl))) (pss_one (ps_ret pe_bl)) pss_nil)
    (pss_one (ps_ret (pe_callB (cr_all rfl) (by rfl) T.b.all (by decide +kernel) (pa_cons (pe_lc (own := [("_law_one", 1)]) (by rfl) sc__law_wholes.nd (pi_list (pv 0)) (blkOk_by (own := [("_law_one", 1)]) (N := ["_law_found", "_law_one"]) (sc := defScope s__law_wholes) (by decide +kernel)) (fun _ _ _ _ _ => (pg_name (i := 1) sc__law_wholes.nd rfl (by first | exact Or.inl rfl | exact Or.inr rfl))) (fun _ _ _ _ _ => pts_nil) (fun _ _ _ _ _ => (pe_and (pe_callB call_isi (by rfl) T.b.isinstance (by decide +kernel) (pa_cons (pv 1) (pa_cons (pe_bltn (v := .ty "int") (by rfl) T.b.int (by decide +kernel) rfl) pa_nil))) (pe_one (pe_not (pe_callB call_isi (by rfl) T.b.isinstance (by decide +kernel) (pa_cons (pv 1) (pa_cons (pe_bltn (v := .ty "bool") (by rfl) T.b.bool (by decide +kernel) rfl) pa_nil)))))))) pa_nil))))), body h rfl ((ss_seq (ss_if (sd_not (sd_tru (sd_cb sc_isi (sd_cons sd_var (sd_cons sd_ty sd_nil))))) (ss_ret sd_bl) ss_next)
    (ss_ret (sd_cb sc_all (sd_cons (sd_lc (si_list sd_var) sg_name (wp_name (by simp)) sd_yes (sd_andV (sd_cb sc_isi (sd_cons sd_var (sd_cons sd_ty sd_nil))) (sd_notV (sd_cb sc_isi (sd_cons sd_var (sd_cons sd_ty sd_nil)))))) sd_nil)))))⟩)

abbrev s__law_people : Stmt := top 35
theorem sc__law_people : FnScope ["_law_some", "_law_people_here", "_law_one"] ["_law_some", "_law_people_here"] (defScope s__law_people) := ⟨rfl, rfl, rfl, by decide +kernel, rfl, by decide +kernel, by decide +kernel⟩
theorem ok__law_people {f : Addr} {fd : FuncData} (F : Fun g.K "_law_people" "_law_people" s__law_people f fd) (T : Tx g mg) (c__law_wholes : Cal P w g.K mg base CX0 1 "_law_wholes" ["_law_found"] (iSp g i__law_wholes)) : FnOk P w g.K mg base CX0 2 f fd ["_law_some", "_law_people_here"] (iSp g i__law_people) :=
  F.ok sc__law_people (iSp_len rfl) (fun cdv AA outer s H vs Q E hr h => ⟨_, (pss_one (ps_ret (pe_and (pe_cal c__law_wholes (hr.mono (by decide)) (by rfl) (pa_cons (pv 0) pa_nil)) (pe_and (pe_cmpR (op_eqD hr.units) (pv 0) (pe_callB (cr_sortedSet rfl) (by rfl) T.b.sorted (by decide +kernel) (pa_cons (pe_callTy (call_SET rfl) (by rfl) T.b.set (by decide +kernel) (pa_cons (pv 0) pa_nil)) pa_nil)) (nomark _)) (pe_one (pe_callB (cr_all rfl) (by rfl) T.b.all (by decide +kernel) (pa_cons (pe_lc (own := [("_law_one", 2)]) (by rfl) sc__law_people.nd (pi_list (pv 0)) (blkOk_by (own := [("_law_one", 2)]) (N := ["_law_some", "_law_people_here", "_law_one"]) (sc := defScope s__law_people) (by decide +kernel)) (fun _ _ _ _ _ => (pg_name (i := 2) sc__law_people.nd rfl (by first | exact Or.inl rfl | exact Or.inr rfl))) (fun _ _ _ _ _ => pts_nil) (fun _ _ _ _ _ => (pe_chain op_le op_lt pe_int (pv 2) (pv 1)))) pa_nil))))))), body h rfl ((ss_ret (sd_andV (sd_call (sd_cons sd_var sd_nil)) (sd_andV (sd_op sr_eq sd_var (sd_sortedSet (sd_cons sd_var sd_nil))) (sd_cb sc_all (sd_cons (sd_lc (si_list sd_var) sg_name (wp_name (by simp)) sd_yes (sd_chain sr_le sr_lt sd_int sd_var sd_var)) sd_nil))))))⟩)

abbrev s__law_second : Stmt := top 36
theorem sc__law_second : FnScope ["_law_task", "_law_who"] ["_law_task", "_law_who"] (defScope s__law_second) := ⟨rfl, rfl, rfl, by decide +kernel, rfl, by decide +kernel, by decide +kernel⟩
theorem ok__law_second {f : Addr} {fd : FuncData} (F : Fun g.K "_law_second" "_law_second" s__law_second f fd) (T : Tx g mg) : FnOk P w g.K mg base CX0 1 f fd ["_law_task", "_law_who"] (iSp g i__law_second) :=
  F.ok sc__law_second (iSp_len rfl) (fun cdv AA outer s H vs Q E hr h => ⟨_, (pss_one (ps_ret (pe_op op_sub (pe_op op_ADD (pe_ix ix_seq (pv 0) pe_int (fun _ _ => rfl)) (pe_ix ix_seq (pv 0) pe_int (fun _ _ => rfl))) (pv 1)))), body h rfl ((ss_ret (sd_op sr_sub (sd_op sr_add (sd_op sr_ix sd_var sd_int) (sd_op sr_ix sd_var sd_int)) sd_var)))⟩)

abbrev s__law_due : Stmt := top 37
theorem sc__law_due : FnScope ["_law_people_here", "_law_tasks_here", "_law_sharing_here", "_law_ends", "_law_found", "_law_some", "_law_came", "_law_at", "_law_task", "_law_who"] ["_law_people_here", "_law_tasks_here", "_law_sharing_here", "_law_ends", "_law_found"] (defScope s__law_due) := ⟨rfl, rfl, rfl, by decide +kernel, rfl, by decide +kernel, by decide +kernel⟩
theorem ok__law_due {f : Addr} {fd : FuncData} (F : Fun g.K "_law_due" "_law_due" s__law_due f fd) (T : Tx g mg) (c__law_second : Cal P w g.K mg base CX0 1 "_law_second" ["_law_task", "_law_who"] (iSp g i__law_second)) (c__law_people : Cal P w g.K mg base CX0 2 "_law_people" ["_law_some", "_law_people_here"] (iSp g i__law_people)) : FnOk P w g.K mg base CX0 3 f fd ["_law_people_here", "_law_tasks_here", "_law_sharing_here", "_law_ends", "_law_found"] (iSp g i__law_due) :=
  F.ok sc__law_due (iSp_len rfl) (fun cdv AA outer s H vs Q E hr h => ⟨_, (pss_cons (ps_if (pt_truth (pe_callB call_isi (by rfl) T.b.isinstance (by decide +kernel) (pa_cons (pv 4) (pa_cons (pe_glob (v := .ref (g.γ "Side")) (by rfl) T.g_Side rfl) pa_nil))) (fun _ => rfl)) (pss_cons (ps_set (i := 5) sc__law_due.nd rfl (by first | exact Or.inl rfl | exact Or.inr rfl) (pe_fld (pv 4) rfl))
    (pss_cons (ps_if (pw_or (pt_not (pt_truth (pe_cal c__law_people (hr.mono (by decide)) (by rfl) (pa_cons (pv 5) (pa_cons (pv 0) pa_nil))) (fun _ => rfl))) (pw_or (pt_cmpR op_notIn_seq (pe_ix ix_seq (pv 3) pe_int (fun _ _ => rfl)) (pv 5) rfl) (pw_or1 (pt_cmpR op_in_seq (pe_ix ix_seq (pv 3) pe_int (fun _ _ => rfl)) (pv 5) rfl)))).pt (pss_one (ps_ret pe_bl)) pss_nil)
    (pss_one (ps_ret (pe_callB (cr_all rfl) (by rfl) T.b.all (by decide +kernel) (pa_cons (pe_lc (own := [("_law_task", 8), ("_law_who", 9)]) (by rfl) sc__law_due.nd (pi_zip (by rfl) T.b.zip (pa_cons (pv 1) (pa_cons (pv 2) pa_nil))) (blkOk_by (own := [("_law_task", 8), ("_law_who", 9)]) (N := ["_law_people_here", "_law_tasks_here", "_law_sharing_here", "_law_ends", "_law_found", "_law_some", "_law_came", "_law_at", "_law_task", "_law_who"]) (sc := defScope s__law_due) (by decide +kernel)) (fun _ _ _ _ _ => (pg_tup rfl (pgs_cons (pg_name (i := 8) sc__law_due.nd rfl (by first | exact Or.inl rfl | exact Or.inr rfl)) (pgs_cons (pg_name (i := 9) sc__law_due.nd rfl (by first | exact Or.inl rfl | exact Or.inr rfl)) pgs_nil)))) (fun _ _ _ _ _ => pts_nil) (fun _ _ _ _ _ => (pe_or (pe_cmpR op_notIn_seq (pv 9) (pv 5) rfl) (pe_one (pe_cmpR op_in_seq (pe_cal c__law_second (hr.mono (by decide)) (by rfl) (pa_cons (pv 8) (pa_cons (pv 9) pa_nil))) (pv 5) rfl))))) pa_nil)))))) pss_nil)
    (pss_cons (ps_set (i := 6) sc__law_due.nd rfl (by first | exact Or.inl rfl | exact Or.inr rfl) (pe_lst (pa_cons (pe_ix ix_seq (pv 3) pe_int (fun _ _ => rfl)) pa_nil)))
    (pss_cons (ps_for PassesOwn.never (by rfl) (pi_list (pe_fld (pv 4) rfl)) (pg_name (i := 7) sc__law_due.nd rfl (by first | exact Or.inl rfl | exact Or.inr rfl)) (pss_cons (ps_if (pw_or (pt_not (pt_chain op_le op_lt pe_int (pv 7) (pe_callB call_LEN (by rfl) T.b.len (by decide +kernel) (pa_cons (pv 1) pa_nil)))) (pw_or1 (pt_cmpR (op_neD hr.units) (pe_ix ix_seq (pv 2) (pv 7) (fun _ _ => rfl)) (pe_ix ix_seq (pv 6) (pe_un un_neg pe_int) (fun _ _ => rfl)) (nomark _)))).pt (pss_one (ps_ret pe_bl)) pss_nil)
    (pss_one (ps_expr (pe_bm PySem.F.plainAttrs_list PySem.F.slot_list_append PySem.F.type_list_append mt_append (pv 6) (pa_cons (pe_cal c__law_second (hr.mono (by decide)) (by rfl) (pa_cons (pe_ix ix_seq (pv 1) (pv 7) (fun _ _ => rfl)) (pa_cons (pe_ix ix_seq (pv 6) (pe_un un_neg pe_int) (fun _ _ => rfl)) pa_nil))) pa_nil))))))
    (pss_one (ps_ret (pe_and (pe_cmpR (op_eqD hr.units) (pe_ix ix_seq (pv 6) (pe_un un_neg pe_int) (fun _ _ => rfl)) (pe_ix ix_seq (pv 3) pe_int (fun _ _ => rfl)) (nomark _)) (pe_one (pe_cmpR (op_eqD hr.units) (pe_callB call_LENSET (by rfl) T.b.len (by decide +kernel) (pa_cons (pe_callTy (call_SET rfl) (by rfl) T.b.set (by decide +kernel) (pa_cons (pv 6) pa_nil)) pa_nil)) (pe_callB call_LEN (by rfl) T.b.len (by decide +kernel) (pa_cons (pv 6) pa_nil)) (nomark _))))))))), body h rfl ((ss_seq (ss_if (sd_tru (sd_cb (sc_isiC T.cl) (sd_cons sd_var (sd_cons (sd_gl rfl) sd_nil)))) (ss_seq (ss_asg (sd_fld T.cl T.na_some sd_var) sg_name)
    (ss_seq (ss_if (sd_or (sd_not (sd_tru (sd_call (sd_cons sd_var (sd_cons sd_var sd_nil))))) (sd_or (sd_test (sd_op sr_in (sd_op sr_ix sd_var sd_int) sd_var)) (sd_test (sd_op sr_in (sd_op sr_ix sd_var sd_int) sd_var)))) (ss_ret sd_bl) ss_next)
    (ss_ret (sd_cb sc_all (sd_cons (sd_lc (si_zip sd_var sd_var) (sg_tup (sgs_cons sg_name (sgs_cons sg_name sgs_nil))) (wp_tup (wps_cons (by simp) (wps_cons (by simp) wps_nil))) sd_yes (sd_orV (sd_op sr_in sd_var sd_var) (sd_op sr_in (sd_call (sd_cons sd_var (sd_cons sd_var sd_nil))) sd_var))) sd_nil))))) ss_next)
    (ss_seq (ss_asg (sd_lst 1 (len_cons len_nil) (by decide) (sd_cons (sd_op sr_ix sd_var sd_int) sd_nil)) sg_name)
    (ss_seq (ss_for (si_list (sd_fld T.cl T.na_tasks sd_var)) sg_name (ss_seq (ss_if (sd_or (sd_not (sd_test (sd_chain sr_le sr_lt sd_int sd_var (sd_cb sc_len (sd_cons sd_var sd_nil))))) (sd_test (sd_op sr_ne (sd_op sr_ix sd_var sd_var) (sd_op sr_ix sd_var (sd_neg sd_int))))) (ss_ret sd_bl) ss_next)
    (ss_expr (sd_bm sm_append sd_var (sd_cons (sd_call (sd_cons (sd_op sr_ix sd_var sd_var) (sd_cons (sd_op sr_ix sd_var (sd_neg sd_int)) sd_nil))) sd_nil)))))
    (ss_ret (sd_andV (sd_op sr_eq (sd_op sr_ix sd_var (sd_neg sd_int)) (sd_op sr_ix sd_var sd_int)) (sd_op sr_eq (sd_lenSet (sd_cons sd_var sd_nil)) (sd_cb sc_len (sd_cons sd_var sd_nil)))))))))⟩)

abbrev s__law_leads : Stmt := top 38
theorem sc__law_leads : FnScope ["_law_tasks_here", "_law_sharing_here", "_law_ends", "_law_came", "_law_more", "_law_task", "_law_who"] ["_law_tasks_here", "_law_sharing_here", "_law_ends"] (defScope s__law_leads) := ⟨rfl, rfl, rfl, by decide +kernel, rfl, by decide +kernel, by decide +kernel⟩
theorem ok__law_leads {f : Addr} {fd : FuncData} (F : Fun g.K "_law_leads" "_law_leads" s__law_leads f fd) (T : Tx g mg) (c__law_second : Cal P w g.K mg base CX0 1 "_law_second" ["_law_task", "_law_who"] (iSp g i__law_second)) : FnOk P w g.K mg base CX0 2 f fd ["_law_tasks_here", "_law_sharing_here", "_law_ends"] (iSp g i__law_leads) :=
  F.ok sc__law_leads (iSp_len rfl) (fun cdv AA outer s H vs Q E hr h => ⟨_, (pss_cons (ps_par (i := 3) (j := 4) (by rfl) sc__law_leads.nd rfl rfl (by decide) rfl rfl (pa_cons (pe_disp (pps_cons (pe_ix ix_seq (pv 2) pe_int (fun _ _ => rfl)) pe_bl pps_nil) (by rfl) (by rfl) (fun z => by cases z) (by decide)) (pa_cons pe_bl pa_nil)) rfl)
    (pss_cons (ps_while PassesOwn.never (pt_truth (pv 4) (fun _ => rfl)) (pss_cons (ps_set (i := 4) sc__law_leads.nd rfl (by first | exact Or.inl rfl | exact Or.inr rfl) pe_bl)
    (pss_one (ps_for PassesOwn.never (by rfl) (pi_zip (by rfl) T.b.zip (pa_cons (pv 0) (pa_cons (pv 1) pa_nil))) (pg_tup rfl (pgs_cons (pg_name (i := 5) sc__law_leads.nd rfl (by first | exact Or.inl rfl | exact Or.inr rfl)) (pgs_cons (pg_name (i := 6) sc__law_leads.nd rfl (by first | exact Or.inl rfl | exact Or.inr rfl)) pgs_nil))) (pss_one (ps_if (pw_and (pt_cmp (pc_din (hu_of hr) (pv 6) (pv 3)) rfl) (pw_and1 (pt_cmp (pc_dnotin (hu_of hr) (pe_cal c__law_second (hr.mono (by decide)) (by rfl) (pa_cons (pv 5) (pa_cons (pv 6) pa_nil))) (pv 3)) rfl))).pt (pss_cons (ps_dput (hu_of hr) (pv 3) (pe_cal c__law_second (hr.mono (by decide)) (by rfl) (pa_cons (pv 5) (pa_cons (pv 6) pa_nil))) pe_bl rfl)
    (pss_one (ps_set (i := 4) sc__law_leads.nd rfl (by first | exact Or.inl rfl | exact Or.inr rfl) pe_bl))) pss_nil))))))
    (pss_one (ps_ret (pe_cmp (pc_din (hu_of hr) (pe_ix ix_seq (pv 2) pe_int (fun _ _ => rfl)) (pv 3)) rfl))))), body h rfl ((ss_seq (ss_par (sd_cons (sd_disp1 (sd_op sr_ix sd_var sd_int) sd_bl) (sd_cons sd_bl sd_nil)))
    (ss_seq (ss_while (sd_tru sd_var) (ss_seq (ss_asg sd_bl sg_name)
    (ss_for (si_zip sd_var sd_var) (sg_tup (sgs_cons sg_name (sgs_cons sg_name sgs_nil))) (ss_if (sd_and (sd_tB (sd_din sd_var sd_var)) (sd_tB (sd_dni (sd_call (sd_cons sd_var (sd_cons sd_var sd_nil))) sd_var))) (ss_seq (ss_dset sd_var (sd_call (sd_cons sd_var (sd_cons sd_var sd_nil))) sd_bl)
    (ss_asg sd_bl sg_name)) ss_next))))
    (ss_ret (sd_din (sd_op sr_ix sd_var sd_int) sd_var)))))⟩)

abbrev s__law_right : Stmt := top 39
theorem sc__law_right : FnScope ["_law_people_here", "_law_tasks_here", "_law_sharing_here", "_law_ends", "_law_others", "_law_handed", "_law_again", "_law_found", "_law_kinds", "_law_wrong", "_law_other", "_law_near", "_law_far", "_law_after", "_law_at", "_law_due_here"] ["_law_people_here", "_law_tasks_here", "_law_sharing_here", "_law_ends", "_law_others"] (defScope s__law_right) := ⟨rfl, rfl, rfl, by decide +kernel, rfl, by decide +kernel, by decide +kernel⟩
theorem ok__law_right {f : Addr} {fd : FuncData} (F : Fun g.K "_law_right" "_law_right" s__law_right f fd) (T : Tx g mg) (c_passed : Cal P w g.K mg base CX0 4 "passed" ["people", "tasks", "sharing", "one", "other"] (iSp g i_passed)) (c__law_wholes : Cal P w g.K mg base CX0 1 "_law_wholes" ["_law_found"] (iSp g i__law_wholes)) (c_Chain_shows : Mcal P w g.K mg base 2 (g.γ "Chain") "shows" ["self", "people", "tasks", "sharing", "one", "other"] (iSp g i_Chain_shows)) (c_Side_shows : Mcal P w g.K mg base 2 (g.γ "Side") "shows" ["self", "people", "tasks", "sharing", "one", "other"] (iSp g i_Side_shows)) (c__law_loads : Cal P w g.K mg base CX0 1 "_law_loads" ["_law_people_here", "_law_sharing_here"] (iSp g i__law_loads)) (c__law_leads : Cal P w g.K mg base CX0 2 "_law_leads" ["_law_tasks_here", "_law_sharing_here", "_law_ends"] (iSp g i__law_leads)) (c__law_due : Cal P w g.K mg base CX0 3 "_law_due" ["_law_people_here", "_law_tasks_here", "_law_sharing_here", "_law_ends", "_law_found"] (iSp g i__law_due)) (c__law_second : Cal P w g.K mg base CX0 1 "_law_second" ["_law_task", "_law_who"] (iSp g i__law_second)) : FnOk P w g.K mg base CX0 5 f fd ["_law_people_here", "_law_tasks_here", "_law_sharing_here", "_law_ends", "_law_others"] (iSp g i__law_right) :=
  F.ok sc__law_right (iSp_len rfl) (fun cdv AA outer s H vs Q E hr h => ⟨_, (pss_cons (ps_set (i := 5) sc__law_right.nd rfl (by first | exact Or.inl rfl | exact Or.inr rfl) (pe_lst (pa_cons (pe_callTy call_LIST (by rfl) T.b.list (by decide +kernel) (pa_cons (pv 1) pa_nil)) (pa_cons (pe_callTy call_LIST (by rfl) T.b.list (by decide +kernel) (pa_cons (pv 2) pa_nil)) pa_nil))))
    (pss_cons (ps_for PassesOwn.never (by rfl) (pi_range1 (by rfl) T.b.range (pa_cons pe_int pa_nil)) (pg_name (i := 6) sc__law_right.nd rfl (by first | exact Or.inl rfl | exact Or.inr rfl)) (pss_cons (ps_set (i := 7) sc__law_right.nd rfl (by first | exact Or.inl rfl | exact Or.inr rfl) (pe_cal c_passed (hr.mono (by decide)) (by rfl) (pa_cons (pv 0) (pa_cons (pe_ix ix_seq (pv 5) pe_int (fun _ _ => rfl)) (pa_cons (pe_ix ix_seq (pv 5) pe_int (fun _ _ => rfl)) (pa_cons (pe_ix ix_seq (pv 3) pe_int (fun _ _ => rfl)) (pa_cons (pe_ix ix_seq (pv 3) pe_int (fun _ _ => rfl)) pa_nil)))))))
    (pss_cons (ps_set (i := 8) sc__law_right.nd rfl (by first | exact Or.inl rfl | exact Or.inr rfl) (pe_lst (pa_cons (pe_callB call_isi (by rfl) T.b.isinstance (by decide +kernel) (pa_cons (pv 7) (pa_cons (pe_glob (v := .ref (g.γ "Chain")) (by rfl) T.g_Chain rfl) pa_nil))) (pa_cons (pe_callB call_isi (by rfl) T.b.isinstance (by decide +kernel) (pa_cons (pv 7) (pa_cons (pe_glob (v := .ref (g.γ "Side")) (by rfl) T.g_Side rfl) pa_nil))) pa_nil))))
    (pss_cons (ps_set (i := 9) sc__law_right.nd rfl (by first | exact Or.inl rfl | exact Or.inr rfl) (pe_lst (pa_cons (pe_callB call_isi (by rfl) T.b.isinstance (by decide +kernel) (pa_cons (pv 7) (pa_cons (pe_glob (v := .ref (g.γ "Even")) (by rfl) T.g_Even rfl) pa_nil))) (pa_cons (pe_callB call_isi (by rfl) T.b.isinstance (by decide +kernel) (pa_cons (pv 7) (pa_cons (pe_glob (v := .ref (g.γ "Shared")) (by rfl) T.g_Shared rfl) pa_nil))) (pa_cons (pe_callB call_isi (by rfl) T.b.isinstance (by decide +kernel) (pa_cons (pv 7) (pa_cons (pe_glob (v := .ref (g.γ "Crowd")) (by rfl) T.g_Crowd rfl) pa_nil))) pa_nil)))))
    (pss_cons (ps_if (pw_or (pt_not (pt_truth (pe_callB call_isi (by rfl) T.b.isinstance (by decide +kernel) (pa_cons (pv 7) (pa_cons (pe_glob (v := .ref (g.γ "Answer")) (by rfl) T.g_Answer rfl) pa_nil))) (fun _ => rfl))) (pw_or (pt_cmpR (op_neD hr.units) (pe_bm PySem.F.plainAttrs_list PySem.F.slot_list_count PySem.F.type_list_count mt_COUNT (pv 8) (pa_cons pe_bl pa_nil)) pe_int (nomark _)) (pw_or (pt_truth (pe_callB (cr_any rfl) (by rfl) T.b.any (by decide +kernel) (pa_cons (pv 9) pa_nil)) (fun _ => rfl)) (pw_or1 (pt_cmpR (op_neD hr.units) (pv 5) (pe_lst (pa_cons (pv 1) (pa_cons (pv 2) pa_nil))) (nomark _)))))).pt (pss_one (ps_ret pe_bl)) pss_nil)
    (pss_cons (ps_if (pt_not (pt_truth (pe_cal c__law_wholes (hr.mono (by decide)) (by rfl) (pa_cons (pe_ifExp (pt_truth (pe_ix ix_seq (pv 8) pe_int (fun _ _ => rfl)) (fun _ => rfl)) (pe_fld (pv 7) rfl) (pe_fld (pv 7) rfl)) pa_nil)) (fun _ => rfl))) (pss_one (ps_ret pe_bl)) pss_nil)
    (pss_cons (ps_if (pw_or (pt_cmpR (op_neD hr.units) (pe_ix ix_seq (pv 8) pe_int (fun _ _ => rfl)) (pe_cal c__law_leads (hr.mono (by decide)) (by rfl) (pa_cons (pv 1) (pa_cons (pv 2) (pa_cons (pv 3) pa_nil)))) (nomark _)) (pw_or1 (pt_not (pt_truth (pe_cal c__law_due (hr.mono (by decide)) (by rfl) (pa_cons (pv 0) (pa_cons (pv 1) (pa_cons (pv 2) (pa_cons (pv 3) (pa_cons (pv 7) pa_nil)))))) (fun _ => rfl))))).pt (pss_one (ps_ret pe_bl)) pss_nil)
    (pss_cons (ps_if (pt_cmpR op_notBl (PE.or2 (pe_mcal c_Chain_shows (hr.mono (by decide)) (pv 7) (pa_cons (pv 0) (pa_cons (pv 1) (pa_cons (pv 2) (pa_cons (pe_ix ix_seq (pv 3) pe_int (fun _ _ => rfl)) (pa_cons (pe_ix ix_seq (pv 3) pe_int (fun _ _ => rfl)) pa_nil)))))) (pe_mcal c_Side_shows (hr.mono (by decide)) (pv 7) (pa_cons (pv 0) (pa_cons (pv 1) (pa_cons (pv 2) (pa_cons (pe_ix ix_seq (pv 3) pe_int (fun _ _ => rfl)) (pa_cons (pe_ix ix_seq (pv 3) pe_int (fun _ _ => rfl)) pa_nil))))))) pe_bl (nomark _)) (pss_one (ps_ret pe_bl)) pss_nil)
    (pss_cons (ps_for PassesOwn.never (by rfl) (pi_list (pv 4)) (pg_tup rfl (pgs_cons (pg_name (i := 10) sc__law_right.nd rfl (by first | exact Or.inl rfl | exact Or.inr rfl)) (pgs_cons (pg_name (i := 11) sc__law_right.nd rfl (by first | exact Or.inl rfl | exact Or.inr rfl)) (pgs_cons (pg_name (i := 12) sc__law_right.nd rfl (by first | exact Or.inl rfl | exact Or.inr rfl)) pgs_nil)))) (pss_one (ps_if (pt_cmpR (op_neD hr.units) (PE.or2 (pe_mcal c_Chain_shows (hr.mono (by decide)) (pv 7) (pa_cons (pv 0) (pa_cons (pv 1) (pa_cons (pv 10) (pa_cons (pv 11) (pa_cons (pv 12) pa_nil)))))) (pe_mcal c_Side_shows (hr.mono (by decide)) (pv 7) (pa_cons (pv 0) (pa_cons (pv 1) (pa_cons (pv 10) (pa_cons (pv 11) (pa_cons (pv 12) pa_nil))))))) (pe_cal c__law_due (hr.mono (by decide)) (by rfl) (pa_cons (pv 0) (pa_cons (pv 1) (pa_cons (pv 10) (pa_cons (pe_tup (pa_cons (pv 11) (pa_cons (pv 12) pa_nil))) (pa_cons (pv 7) pa_nil)))))) (nomark _)) (pss_one (ps_ret pe_bl)) pss_nil)))
    (pss_cons (ps_if (pt_truth (pe_ix ix_seq (pv 8) pe_int (fun _ _ => rfl)) (fun _ => rfl)) (pss_cons (ps_set (i := 13) sc__law_right.nd rfl (by first | exact Or.inl rfl | exact Or.inr rfl) (pe_callTy call_LIST (by rfl) T.b.list (by decide +kernel) (pa_cons (pv 2) pa_nil)))
    (pss_cons (ps_for PassesOwn.never (by rfl) (pi_list (pe_fld (pv 7) rfl)) (pg_name (i := 14) sc__law_right.nd rfl (by first | exact Or.inl rfl | exact Or.inr rfl)) (pss_one (ps_asg (pe_cal c__law_second (hr.mono (by decide)) (by rfl) (pa_cons (pe_ix ix_seq (pv 1) (pv 14) (fun _ _ => rfl)) (pa_cons (pe_ix ix_seq (pv 13) (pv 14) (fun _ _ => rfl)) pa_nil))) (pg_sub (pv 13) (pv 14) set_list))))
    (pss_cons (ps_set (i := 15) sc__law_right.nd rfl (by first | exact Or.inl rfl | exact Or.inr rfl) (pe_cal c__law_loads (hr.mono (by decide)) (by rfl) (pa_cons (pv 0) (pa_cons (pv 2) pa_nil))))
    (pss_cons (ps_asg (pe_op op_sub (pe_ix ix_seq (pv 15) (pe_ix ix_seq (pv 3) pe_int (fun _ _ => rfl)) (fun _ _ => rfl)) pe_int) (pg_sub (pv 15) (pe_ix ix_seq (pv 3) pe_int (fun _ _ => rfl)) set_list))
    (pss_cons (ps_asg (pe_op op_ADD (pe_ix ix_seq (pv 15) (pe_ix ix_seq (pv 3) pe_int (fun _ _ => rfl)) (fun _ _ => rfl)) pe_int) (pg_sub (pv 15) (pe_ix ix_seq (pv 3) pe_int (fun _ _ => rfl)) set_list))
    (pss_cons (ps_if (pt_cmpR (op_neD hr.units) (pe_cal c__law_loads (hr.mono (by decide)) (by rfl) (pa_cons (pv 0) (pa_cons (pv 13) pa_nil))) (pv 15) (nomark _)) (pss_one (ps_ret pe_bl)) pss_nil)
    (pss_one (ps_expr (pe_bm PySem.F.plainAttrs_list PySem.F.slot_list_append PySem.F.type_list_append mt_append (pe_fld (pv 7) rfl) (pa_cons (pe_un un_neg pe_int) pa_nil)))))))))) (pss_one (ps_expr (pe_bm PySem.F.plainAttrs_list PySem.F.slot_list_append PySem.F.type_list_append mt_append (pe_fld (pv 7) rfl) (pa_cons (pe_un un_neg pe_int) pa_nil)))))
    (pss_one (ps_if (pt_cmpR op_notBl (PE.or2 (pe_mcal c_Chain_shows (hr.mono (by decide)) (pv 7) (pa_cons (pv 0) (pa_cons (pv 1) (pa_cons (pv 2) (pa_cons (pe_ix ix_seq (pv 3) pe_int (fun _ _ => rfl)) (pa_cons (pe_ix ix_seq (pv 3) pe_int (fun _ _ => rfl)) pa_nil)))))) (pe_mcal c_Side_shows (hr.mono (by decide)) (pv 7) (pa_cons (pv 0) (pa_cons (pv 1) (pa_cons (pv 2) (pa_cons (pe_ix ix_seq (pv 3) pe_int (fun _ _ => rfl)) (pa_cons (pe_ix ix_seq (pv 3) pe_int (fun _ _ => rfl)) pa_nil))))))) pe_bl (nomark _)) (pss_one (ps_ret pe_bl)) pss_nil))))))))))))
    (pss_one (ps_ret pe_bl)))), body h rfl ((ss_seq (ss_asg (sd_lst 2 (len_cons (len_cons len_nil)) (by decide) (sd_cons (sd_cb sc_list (sd_cons sd_var sd_nil)) (sd_cons (sd_cb sc_list (sd_cons sd_var sd_nil)) sd_nil))) sg_name)
    (ss_seq (ss_for (si_rng sd_int) sg_name (ss_seq (ss_asg (sd_call (sd_cons sd_var (sd_cons (sd_op sr_ix sd_var sd_int) (sd_cons (sd_op sr_ix sd_var sd_int) (sd_cons (sd_op sr_ix sd_var sd_int) (sd_cons (sd_op sr_ix sd_var sd_int) sd_nil)))))) sg_name)
    (ss_seq (ss_asg (sd_lst 2 (len_cons (len_cons len_nil)) (by decide) (sd_cons (sd_cb (sc_isiC T.cl) (sd_cons sd_var (sd_cons (sd_gl rfl) sd_nil))) (sd_cons (sd_cb (sc_isiC T.cl) (sd_cons sd_var (sd_cons (sd_gl rfl) sd_nil))) sd_nil))) sg_name)
    (ss_seq (ss_asg (sd_lst 3 (len_cons (len_cons (len_cons len_nil))) (by decide) (sd_cons (sd_cb (sc_isiC T.cl) (sd_cons sd_var (sd_cons (sd_gl rfl) sd_nil))) (sd_cons (sd_cb (sc_isiC T.cl) (sd_cons sd_var (sd_cons (sd_gl rfl) sd_nil))) (sd_cons (sd_cb (sc_isiC T.cl) (sd_cons sd_var (sd_cons (sd_gl rfl) sd_nil))) sd_nil)))) sg_name)
    (ss_seq (ss_if (sd_or (sd_not (sd_tru (sd_cb (sc_isiC T.cl) (sd_cons sd_var (sd_cons (sd_gl rfl) sd_nil))))) (sd_or (sd_test (sd_op sr_ne (sd_bm sm_count sd_var (sd_cons sd_bl sd_nil)) sd_int)) (sd_or (sd_tru (sd_cb sc_any (sd_cons sd_var sd_nil))) (sd_test (sd_op sr_ne sd_var (sd_lst 2 (len_cons (len_cons len_nil)) (by decide) (sd_cons sd_var (sd_cons sd_var sd_nil)))))))) (ss_ret sd_bl) ss_next)
    (ss_seq (ss_if (sd_not (sd_tru (sd_call (sd_cons (sd_if (sd_tru (sd_op sr_ix sd_var sd_int)) (sd_fld T.cl T.na_tasks sd_var) (sd_fld T.cl T.na_some sd_var)) sd_nil)))) (ss_ret sd_bl) ss_next)
    (ss_seq (ss_if (sd_or (sd_test (sd_op sr_ne (sd_op sr_ix sd_var sd_int) (sd_call (sd_cons sd_var (sd_cons sd_var (sd_cons sd_var sd_nil)))))) (sd_not (sd_tru (sd_call (sd_cons sd_var (sd_cons sd_var (sd_cons sd_var (sd_cons sd_var (sd_cons sd_var sd_nil))))))))) (ss_ret sd_bl) ss_next)
    (ss_seq (ss_if (sd_test (sd_op sr_isnot (sd_is (sd_meth rfl sd_var (sd_cons sd_var (sd_cons sd_var (sd_cons sd_var (sd_cons (sd_op sr_ix sd_var sd_int) (sd_cons (sd_op sr_ix sd_var sd_int) sd_nil)))))) (sd_meth rfl sd_var (sd_cons sd_var (sd_cons sd_var (sd_cons sd_var (sd_cons (sd_op sr_ix sd_var sd_int) (sd_cons (sd_op sr_ix sd_var sd_int) sd_nil))))))) sd_bl)) (ss_ret sd_bl) ss_next)
    (ss_seq (ss_for (si_list sd_var) (sg_tup (sgs_cons sg_name (sgs_cons sg_name (sgs_cons sg_name sgs_nil)))) (ss_if (sd_test (sd_op sr_ne (sd_is (sd_meth rfl sd_var (sd_cons sd_var (sd_cons sd_var (sd_cons sd_var (sd_cons sd_var (sd_cons sd_var sd_nil)))))) (sd_meth rfl sd_var (sd_cons sd_var (sd_cons sd_var (sd_cons sd_var (sd_cons sd_var (sd_cons sd_var sd_nil))))))) (sd_call (sd_cons sd_var (sd_cons sd_var (sd_cons sd_var (sd_cons (sd_tup 2 (len_cons (len_cons len_nil)) (by decide) (sd_cons sd_var (sd_cons sd_var sd_nil))) (sd_cons sd_var sd_nil)))))))) (ss_ret sd_bl) ss_next))
    (ss_seq (ss_if (sd_tru (sd_op sr_ix sd_var sd_int)) (ss_seq (ss_asg (sd_cb sc_list (sd_cons sd_var sd_nil)) sg_name)
    (ss_seq (ss_for (si_list (sd_fld T.cl T.na_tasks sd_var)) sg_name (ss_asg (sd_call (sd_cons (sd_op sr_ix sd_var sd_var) (sd_cons (sd_op sr_ix sd_var sd_var) sd_nil))) (sg_sub sd_var sd_var)))
    (ss_seq (ss_asg (sd_call (sd_cons sd_var (sd_cons sd_var sd_nil))) sg_name)
    (ss_seq (ss_asg (sd_op sr_sub (sd_op sr_ix sd_var (sd_op sr_ix sd_var sd_int)) sd_int) (sg_sub sd_var (sd_op sr_ix sd_var sd_int)))
    (ss_seq (ss_asg (sd_op sr_add (sd_op sr_ix sd_var (sd_op sr_ix sd_var sd_int)) sd_int) (sg_sub sd_var (sd_op sr_ix sd_var sd_int)))
    (ss_seq (ss_if (sd_test (sd_op sr_ne (sd_call (sd_cons sd_var (sd_cons sd_var sd_nil))) sd_var)) (ss_ret sd_bl) ss_next)
    (ss_expr (sd_bm sm_append (sd_fld T.cl T.na_tasks sd_var) (sd_cons (sd_neg sd_int) sd_nil))))))))) (ss_expr (sd_bm sm_append (sd_fld T.cl T.na_some sd_var) (sd_cons (sd_neg sd_int) sd_nil))))
    (ss_if (sd_test (sd_op sr_isnot (sd_is (sd_meth rfl sd_var (sd_cons sd_var (sd_cons sd_var (sd_cons sd_var (sd_cons (sd_op sr_ix sd_var sd_int) (sd_cons (sd_op sr_ix sd_var sd_int) sd_nil)))))) (sd_meth rfl sd_var (sd_cons sd_var (sd_cons sd_var (sd_cons sd_var (sd_cons (sd_op sr_ix sd_var sd_int) (sd_cons (sd_op sr_ix sd_var sd_int) sd_nil))))))) sd_bl)) (ss_ret sd_bl) ss_next)))))))))))
    (ss_ret sd_bl))))⟩)

abbrev s_law : Stmt := top 40
theorem sc_law : FnScope ["_law_script", "_law_people_here", "_law_tasks_here", "_law_whole", "_law_sharings", "_law_at", "_law_cell", "_law_one", "_law_other", "_law_sharing_here", "_law_others", "_law_task"] ["_law_script"] (defScope s_law) := ⟨rfl, rfl, rfl, by decide +kernel, rfl, by decide +kernel, by decide +kernel⟩
theorem ok_law {f : Addr} {fd : FuncData} (F : Fun g.K "law" "law" s_law f fd) (T : Tx g mg) (c__law_tasks : Cal P w g.K mg base CX0 2 "_law_tasks" ["_law_script"] (iSp g i__law_tasks)) (c__law_sharing : Cal P w g.K mg base CX0 2 "_law_sharing" ["_law_script", "_law_tasks_here", "_law_by"] (iSp g i__law_sharing)) (c__law_right : Cal P w g.K mg base CX0 5 "_law_right" ["_law_people_here", "_law_tasks_here", "_law_sharing_here", "_law_ends", "_law_others"] (iSp g i__law_right)) (c_passed : Cal P w g.K mg base CX0 4 "passed" ["people", "tasks", "sharing", "one", "other"] (iSp g i_passed)) : FnOk P w g.K mg base CX0 6 f fd ["_law_script"] (iSp g i_law) :=
  F.ok sc_law (iSp_len rfl) (fun cdv AA outer s H vs Q E hr h => ⟨_, (pss_cons (ps_asg (pe_cal c__law_tasks (hr.mono (by decide)) (by rfl) (pa_cons (pv 0) pa_nil)) (pg_tup rfl (pgs_cons (pg_name (i := 1) sc_law.nd rfl (by first | exact Or.inl rfl | exact Or.inr rfl)) (pgs_cons (pg_name (i := 2) sc_law.nd rfl (by first | exact Or.inl rfl | exact Or.inr rfl)) pgs_nil))))
    (pss_cons (ps_set (i := 3) sc_law.nd rfl (by first | exact Or.inl rfl | exact Or.inr rfl) (pe_callB (cr_sum rfl) (by rfl) T.b.sum (by decide +kernel) (pa_cons (pe_slice sl_list (pv 0) po_none (po_some pe_int)) pa_nil)))
    (pss_cons (ps_set (i := 4) sc_law.nd rfl (by first | exact Or.inl rfl | exact Or.inr rfl) (pe_lst (pa_cons (pe_cal c__law_sharing (hr.mono (by decide)) (by rfl) (pa_cons (pv 0) (pa_cons (pv 2) (pa_cons pe_int pa_nil)))) (pa_cons (pe_cal c__law_sharing (hr.mono (by decide)) (by rfl) (pa_cons (pv 0) (pa_cons (pv 2) (pa_cons pe_int pa_nil)))) (pa_cons (pe_lc (own := [("_law_task", 11)]) (by rfl) sc_law.nd (pi_list (pv 2)) (blkOk_by (own := [("_law_task", 11)]) (N := ["_law_script", "_law_people_here", "_law_tasks_here", "_law_whole", "_law_sharings", "_law_at", "_law_cell", "_law_one", "_law_other", "_law_sharing_here", "_law_others", "_law_task"]) (sc := defScope s_law) (by decide +kernel)) (fun _ _ _ _ _ => (pg_name (i := 11) sc_law.nd rfl (by first | exact Or.inl rfl | exact Or.inr rfl))) (fun _ _ _ _ _ => pts_nil) (fun _ _ _ _ _ => (pe_ix ix_seq (pv 11) pe_int (fun _ _ => rfl)))) pa_nil)))))
    (pss_cons (ps_for PassesOwn.never (by rfl) (pi_enum (by rfl) T.b.enumerate (pa_cons (pe_op op_ADD (pe_slice sl_list (pv 0) po_none (po_some pe_int)) (pe_lst (pa_cons pe_int (pa_cons (pv 3) pa_nil)))) pa_nil)) (pg_tup rfl (pgs_cons (pg_name (i := 5) sc_law.nd rfl (by first | exact Or.inl rfl | exact Or.inr rfl)) (pgs_cons (pg_name (i := 6) sc_law.nd rfl (by first | exact Or.inl rfl | exact Or.inr rfl)) pgs_nil))) (pss_cons (ps_set (i := 7) sc_law.nd rfl (by first | exact Or.inl rfl | exact Or.inr rfl) (pe_op op_mod (pe_op op_ADD (pe_op op_fdiv (pv 6) pe_int) (pv 5)) (pv 1)))
    (pss_cons (ps_set (i := 8) sc_law.nd rfl (by first | exact Or.inl rfl | exact Or.inr rfl) (pe_op op_mod (pe_op op_ADD (pe_op op_ADD (pv 7) pe_int) (pe_op op_mod (pe_op op_fdiv (pv 6) pe_int) (pe_op op_sub (pv 1) pe_int))) (pv 1)))
    (pss_cons (ps_set (i := 9) sc_law.nd rfl (by first | exact Or.inl rfl | exact Or.inr rfl) (pe_ix ix_seq (pv 4) (pe_op op_mod (pv 5) pe_int) (fun _ _ => rfl)))
    (pss_cons (ps_set (i := 10) sc_law.nd rfl (by first | exact Or.inl rfl | exact Or.inr rfl) (pe_lst (pa_cons (pe_tup (pa_cons (pe_ix ix_seq (pv 4) (pe_op op_mod (pe_op op_ADD (pv 5) pe_int) pe_int) (fun _ _ => rfl)) (pa_cons (pv 7) (pa_cons (pv 8) pa_nil)))) (pa_cons (pe_tup (pa_cons (pv 9) (pa_cons (pv 8) (pa_cons (pv 7) pa_nil)))) pa_nil))))
    (pss_one (ps_if (pt_not (pt_truth (pe_cal c__law_right (hr.mono (by decide)) (by rfl) (pa_cons (pv 1) (pa_cons (pv 2) (pa_cons (pv 9) (pa_cons (pe_tup (pa_cons (pv 7) (pa_cons (pv 8) pa_nil))) (pa_cons (pv 10) pa_nil)))))) (fun _ => rfl))) (pss_one (ps_ret pe_bl)) pss_nil)))))))
    (pss_cons (ps_if (pt_cmpR (op_neD hr.units) (pe_fld (pe_cal c_passed (hr.mono (by decide)) (by rfl) (pa_cons pe_int (pa_cons (pe_lst (pa_cons (pe_tup (pa_cons pe_int (pa_cons pe_int pa_nil))) (pa_cons (pe_tup (pa_cons pe_int (pa_cons pe_int pa_nil))) pa_nil))) (pa_cons (pe_lst (pa_cons pe_int (pa_cons pe_int pa_nil))) (pa_cons pe_int (pa_cons pe_int pa_nil)))))) rfl) (pe_lst (pa_cons pe_int (pa_cons pe_int pa_nil))) (nomark _)) (pss_one (ps_ret pe_bl)) pss_nil)
    (pss_one (ps_ret (pe_and (pe_cmpR (op_eqD hr.units) (pe_fld (pe_cal c_passed (hr.mono (by decide)) (by rfl) (pa_cons pe_int (pa_cons (pe_lst (pa_cons (pe_tup (pa_cons pe_int (pa_cons pe_int pa_nil))) (pa_cons (pe_tup (pa_cons pe_int (pa_cons pe_int pa_nil))) pa_nil))) (pa_cons (pe_lst (pa_cons pe_int (pa_cons pe_int pa_nil))) (pa_cons pe_int (pa_cons pe_int pa_nil)))))) rfl) (pe_lst (pa_cons pe_int pa_nil)) (nomark _)) (pe_one (pe_cmpR (op_eqD hr.units) (pe_fld (pe_cal c_passed (hr.mono (by decide)) (by rfl) (pa_cons pe_int (pa_cons (pe_lst pa_nil) (pa_cons (pe_lst pa_nil) (pa_cons pe_int (pa_cons pe_int pa_nil)))))) rfl) (pe_lst (pa_cons pe_int pa_nil)) (nomark _))))))))))), body h rfl ((ss_seq (ss_asg (sd_call (sd_cons sd_var sd_nil)) (sg_tup (sgs_cons sg_name (sgs_cons sg_name sgs_nil))))
    (ss_seq (ss_asg (sd_cb sc_sum (sd_cons (sd_sl sd_var so_none (so_some sd_int)) sd_nil)) sg_name)
    (ss_seq (ss_asg (sd_lst 3 (len_cons (len_cons (len_cons len_nil))) (by decide) (sd_cons (sd_call (sd_cons sd_var (sd_cons sd_var (sd_cons sd_int sd_nil)))) (sd_cons (sd_call (sd_cons sd_var (sd_cons sd_var (sd_cons sd_int sd_nil)))) (sd_cons (sd_lc (si_list sd_var) sg_name (wp_name (by simp)) sd_yes (sd_op sr_ix sd_var sd_int)) sd_nil)))) sg_name)
    (ss_seq (ss_for (si_enum (sd_op sr_add (sd_sl sd_var so_none (so_some sd_int)) (sd_lst 2 (len_cons (len_cons len_nil)) (by decide) (sd_cons sd_int (sd_cons sd_var sd_nil))))) (sg_tup (sgs_cons sg_name (sgs_cons sg_name sgs_nil))) (ss_seq (ss_asg (sd_op sr_mod (sd_op sr_add (sd_op sr_div sd_var sd_int) sd_var) sd_var) sg_name)
    (ss_seq (ss_asg (sd_op sr_mod (sd_op sr_add (sd_op sr_add sd_var sd_int) (sd_op sr_mod (sd_op sr_div sd_var sd_int) (sd_op sr_sub sd_var sd_int))) sd_var) sg_name)
    (ss_seq (ss_asg (sd_op sr_ix sd_var (sd_op sr_mod sd_var sd_int)) sg_name)
    (ss_seq (ss_asg (sd_lst 2 (len_cons (len_cons len_nil)) (by decide) (sd_cons (sd_tup 3 (len_cons (len_cons (len_cons len_nil))) (by decide) (sd_cons (sd_op sr_ix sd_var (sd_op sr_mod (sd_op sr_add sd_var sd_int) sd_int)) (sd_cons sd_var (sd_cons sd_var sd_nil)))) (sd_cons (sd_tup 3 (len_cons (len_cons (len_cons len_nil))) (by decide) (sd_cons sd_var (sd_cons sd_var (sd_cons sd_var sd_nil)))) sd_nil))) sg_name)
    (ss_if (sd_not (sd_tru (sd_call (sd_cons sd_var (sd_cons sd_var (sd_cons sd_var (sd_cons (sd_tup 2 (len_cons (len_cons len_nil)) (by decide) (sd_cons sd_var (sd_cons sd_var sd_nil))) (sd_cons sd_var sd_nil)))))))) (ss_ret sd_bl) ss_next))))))
    (ss_seq (ss_if (sd_test (sd_op sr_ne (sd_fld T.cl T.na_tasks (sd_call (sd_cons sd_int (sd_cons (sd_lst 2 (len_cons (len_cons len_nil)) (by decide) (sd_cons (sd_tup 2 (len_cons (len_cons len_nil)) (by decide) (sd_cons sd_int (sd_cons sd_int sd_nil))) (sd_cons (sd_tup 2 (len_cons (len_cons len_nil)) (by decide) (sd_cons sd_int (sd_cons sd_int sd_nil))) sd_nil))) (sd_cons (sd_lst 2 (len_cons (len_cons len_nil)) (by decide) (sd_cons sd_int (sd_cons sd_int sd_nil))) (sd_cons sd_int (sd_cons sd_int sd_nil))))))) (sd_lst 2 (len_cons (len_cons len_nil)) (by decide) (sd_cons sd_int (sd_cons sd_int sd_nil))))) (ss_ret sd_bl) ss_next)
    (ss_ret (sd_andV (sd_op sr_eq (sd_fld T.cl T.na_some (sd_call (sd_cons sd_int (sd_cons (sd_lst 2 (len_cons (len_cons len_nil)) (by decide) (sd_cons (sd_tup 2 (len_cons (len_cons len_nil)) (by decide) (sd_cons sd_int (sd_cons sd_int sd_nil))) (sd_cons (sd_tup 2 (len_cons (len_cons len_nil)) (by decide) (sd_cons sd_int (sd_cons sd_int sd_nil))) sd_nil))) (sd_cons (sd_lst 2 (len_cons (len_cons len_nil)) (by decide) (sd_cons sd_int (sd_cons sd_int sd_nil))) (sd_cons sd_int (sd_cons sd_int sd_nil))))))) (sd_lst 1 (len_cons len_nil) (by decide) (sd_cons sd_int sd_nil))) (sd_op sr_eq (sd_fld T.cl T.na_some (sd_call (sd_cons sd_int (sd_cons (sd_lst 0 len_nil (by decide) sd_nil) (sd_cons (sd_lst 0 len_nil (by decide) sd_nil) (sd_cons sd_int (sd_cons sd_int sd_nil))))))) (sd_lst 1 (len_cons len_nil) (by decide) (sd_cons sd_int sd_nil)))))))))))⟩)

end
end IL

end
section
set_option linter.all false
set_option maxRecDepth 100000
namespace IL
open PySem L2
theorem is_number_int (i l : Int) (S : Sto) : i_is_number [.int i, .int l] S = .ok (.bl (decide (l ≤ i))) S := by
  simp [i_is_number, mkFn, sRet, iAndV, iCB, iCons, iVar, iC, iNil, fIsi, tyB, kit_ii, kit_ib, asB, iNotV, iOp, fII, O.val]
theorem is_task_ok {S : Sto} {q : Nat} {x y n : Int} (h : S[q]? = some (.tup [.int x, .int y])) : i_is_task [.ref q, .int n] S = .ok (.bl (decide (0 ≤ x) && decide (0 ≤ y) && (decide (x < y) && decide (y < n)))) (S ++ [.lst [.bl (decide (0 ≤ x)), .bl (decide (0 ≤ y))]]) := by
  have h1 : ∀ T, (S ++ T)[q]? = some (.tup [.int x, .int y]) := fun T => get_app h
  by_cases h0 : 0 ≤ x <;> by_cases h2 : 0 ≤ y <;> by_cases h3 : x < y <;> by_cases h4 : y < n <;>
  simp [i_is_task, mkFn, sSeq, sIf, iOr, iNot, iB, iCB, iCons, iVar, iC, iNil, fIsi, tyB, kit_tt, asB, iOp, fII, O.val, h, h1, sRet, fLen, getQ, getL, getT, fNe, toP, PyData.eqv, iLc, itTup, lcL, sameAt, tgName, iYes, iCall, is_number_int, wipeE, fAll, asBs, asBl, allO, sNext, iChain, fIx, atI, ixN, h0, h2, h3, h4]
/-- tasks of n people -/
def GT (n : Nat) (ts : List (Nat × Nat)) : Prop := ∀ t ∈ ts, t.1 < t.2 ∧ t.2 < n
/-- a sharing of them -/
def GS (ts : List (Nat × Nat)) (sh : List Nat) : Prop := Paired (fun t x => x = t.1 ∨ x = t.2) ts sh
theorem mem_map_one {vs : List Va} {it : It1} (h : it ∈ vs.map It1.one) : ∃ v ∈ vs, it = .one v := by
  obtain ⟨v, h1, h2⟩ := List.mem_map.mp h; exact ⟨v, h1, h2.symm⟩
theorem Paired.mem {α β : Type} {F : α → β → Prop} {xs : List α} {ys : List β} {x : α} (r : Paired F xs ys) (h : x ∈ xs) : ∃ y ∈ ys, F x y := by
  obtain ⟨k, hk⟩ := List.getElem?_of_mem h
  obtain ⟨y, h1, h2⟩ := Paired.get r hk
  exact ⟨y, List.mem_of_getElem? h1, h2⟩
theorem filter_true {α : Type} (l : List α) : l.filter (fun _ => true) = l := by simp
theorem check_tasks_ok {S : Sto} {p n : Nat} {vs : List Va} {ts : List (Nat × Nat)} (hp : S[p]? = some (.lst vs)) (ht : Tks S vs ts) (hg : GT n ts) (h1 : 1 ≤ n) (h2 : n ≤ 60) (hl : ts.length ≤ 100000) :
    ∃ T, i_check_tasks [vN n, .ref p] S = .ok .non (S ++ T) := by
  have hv := Paired.len ht
  obtain ⟨T', k, h, hk⟩ := lc_run (ii := itList (iVar 1)) (tg := tgName 2) (tt := iYes) (ie := iCall i_is_task (iCons (iVar 2) (iCons (iVar 0) iNil))) (vs := [2]) (ρ := [some (vN n), some (.ref p), none]) (S := S) (its := vs.map .one) (chk := sameAt S (.ref p))
    (by simp [itList, iVar, getL_ref hp]) (by rw [List.length_map]; omega) (fun T => sameAt_app hp) (fun _ => true) (fun _ => .bl true) (fun it hi T => by
    obtain ⟨v, hv, rfl⟩ := mem_map_one hi
    obtain ⟨t, ht1, q, rfl, hq⟩ := Paired.mem ht hv
    obtain ⟨g1, g2⟩ := hg t ht1
    refine ⟨_, T, rfl, rfl, fun _ => ?_⟩
    have := is_task_ok (n := n) (get_app (T := T) hq)
    have e : (decide ((0 : Int) ≤ t.1) && decide ((0 : Int) ≤ t.2) && (decide ((t.1 : Int) < t.2) && decide ((t.2 : Int) < n))) = true := by simp; omega
    rw [e, List.append_assoc] at this
    exact ⟨_, this⟩)
  have hk' := hk []
  rw [List.append_nil, filter_true, List.map_map] at hk'
  have hb : asBs (vs.map ((fun _ => Va.bl true) ∘ It1.one)) = some (vs.map fun _ => true) := asBs_B (fun _ => true) vs
  have e0 : ¬ (60 : Int) < n := by omega
  have e1 : (1 : Int) ≤ n := by omega
  refine ⟨T', ?_⟩
  simp [i_check_tasks, mkFn, sSeq, sIf, iOr, iNot, iB, iCall, iCons, iVar, iC, iNil, vN, is_number_int, asB, iOp, fII, e0, e1, sNext, iCB, fIsi, tyB, hp, kit_ll] at h ⊢
  simp [h, fAll, getL_ref hk', hb, asB, O.val]
theorem check_tasks_ok' {S : Sto} {p n : Nat} {vs : List Va} {ts : List (Nat × Nat)} (hp : S[p]? = some (.lst vs)) (ht : Tks S vs ts) (hg : GT n ts) (h1 : 1 ≤ n) (h2 : n ≤ 60) (hl : ts.length ≤ 100000) (T0 : Sto) :
    ∃ T, i_check_tasks [vN n, .ref p] (S ++ T0) = .ok .non (S ++ T) := by
  obtain ⟨T, h⟩ := check_tasks_ok (get_app (T := T0) hp) ht.app hg h1 h2 hl
  exact ⟨T0 ++ T, by rw [h, List.append_assoc]⟩
theorem beq_dec (a b : Int) : (a == b) = decide (b = a) := by
  by_cases h : b = a
  · subst h; simp
  · rw [decide_eq_false h]; simp; omega
/-- what is_sharing says of a list of ints -/
def isShB (ts : List (Nat × Nat)) (xs : List Int) : Bool := decide (xs.length = ts.length) && (xs.all (fun x => decide (0 ≤ x)) && (ts.zip xs).all fun tx => decide (tx.2 = tx.1.1) || decide (tx.2 = tx.1.2))
theorem is_sharing_ok {S : Sto} {p q : Nat} {vs : List Va} {ts : List (Nat × Nat)} {xs : List Int} (hp : S[p]? = some (.lst vs)) (ht : Tks S vs ts) (hq : S[q]? = some (.lst (xs.map .int))) (hl : xs.length ≤ 100000) :
    ∃ T, i_is_sharing [.ref p, .ref q] S = .ok (.bl (isShB ts xs)) (S ++ T) := by
  have hv := Paired.len ht
  have hlen : (fNe (.int xs.length) (.int vs.length) S) = .ok (.bl (!decide (xs.length = vs.length))) S := by
    simp only [fNe, toP, PyData.eqv]
    congr 2
    by_cases e : xs.length = vs.length
    · simp [e]
    · have : ((xs.length : Int) == (vs.length : Int)) = false := by simp; omega
      rw [this, decide_eq_false e]
  have c1 := lcr_run0 (ii := itList (iVar 1)) (tg := tgName 2) (tt := iYes) (ie := iCall i_is_number (iCons (iVar 2) (iCons (iC (.int 0)) iNil))) (vs := [2]) (ρ := [some (.ref p), some (.ref q), none, none, none]) (S := S) (its := (xs.map .int).map .one) (os := xs.map fun x => some (.bl (decide (0 ≤ x)))) (chk := sameAt S (.ref q))
    (by simp [itList, iVar, getL_ref hq]) (by simp; exact hl) sameAt_self (Paired.of_get (by simp) fun k it o h1 h2 => by
      obtain ⟨v, e1, rfl⟩ := map_one_get h1
      obtain ⟨x, e2, rfl⟩ := map_get e1
      obtain ⟨x', e3, rfl⟩ := map_get h2
      rw [e2] at e3; cases e3
      refine ⟨_, rfl, rfl, fun y hy => ?_⟩
      cases hy
      exact is_number_int x 0 S)
  rw [fmap_some] at c1
  have b1 := asBs_B (fun x : Int => decide (0 ≤ x)) xs
  have hp' : ∀ T, (S ++ T)[p]? = some (.lst vs) := fun T => get_app hp
  have hq' : ∀ T, (S ++ T)[q]? = some (.lst (xs.map .int)) := fun T => get_app hq
  by_cases e1 : xs.length = vs.length
  · have hlen' : (fNe (.int xs.length) (.int vs.length) S) = .ok (.bl false) S := by rw [hlen, decide_eq_true e1]; rfl
    by_cases e2 : xs.all (fun x => decide (0 ≤ x)) = true
    · have c2 := lcr_run0 (ii := itZip (iVar 0) (iVar 1)) (tg := tgTupN 2 [tgName 3, tgName 4]) (tt := iYes) (ie := iOp (fIn false) (iVar 4) (iVar 3)) (vs := [3, 4]) (ρ := [some (.ref p), some (.ref q), none, none, none]) (S := S ++ [.lst (xs.map fun x => .bl (decide (0 ≤ x)))]) (its := zipI vs (xs.map .int))
        (os := (ts.zip xs).map fun tx => some (.bl (decide (tx.2 = tx.1.1) || decide (tx.2 = tx.1.2)))) (chk := fun S' => sameAt (S ++ [.lst (xs.map fun x => .bl (decide (0 ≤ x)))]) (.ref p) S' && sameAt (S ++ [.lst (xs.map fun x => .bl (decide (0 ≤ x)))]) (.ref q) S')
        (by simp [itZip, iVar, getL_ref (hp' _), getL_ref (hq' _)]) (by rw [zipI_length]; simp; omega) (by simp [sameAt_self]) (Paired.of_get (by rw [zipI_length]; simp; omega) fun k it o h1 h2 => by
          obtain ⟨v, w, z1, z2, rfl⟩ := zipI_get _ _ _ _ h1
          obtain ⟨x, z3, rfl⟩ := map_get z2
          obtain ⟨tx, z4, rfl⟩ := map_get h2
          obtain ⟨z5, z6⟩ := zip_get z4
          rw [z3] at z6; cases z6
          obtain ⟨t, z7, a, rfl, ha⟩ := Paired.get ht z1
          rw [z7] at z5; cases z5
          refine ⟨_, rfl, rfl, fun y hy => ?_⟩
          cases hy
          have ha' := get_app (T := [.lst (xs.map fun x => .bl (decide (0 ≤ x)))]) ha
          simp [fIn, getQ_tup ha', flatA, vN, inA, eqA, beq_dec])
      rw [fmap_some] at c2
      have b2 := asBs_B (fun tx : (Nat × Nat) × Int => decide (tx.2 = tx.1.1) || decide (tx.2 = tx.1.2)) (ts.zip xs)
      have e3 : isShB ts xs = (ts.zip xs).all fun tx => decide (tx.2 = tx.1.1) || decide (tx.2 = tx.1.2) := by
        unfold isShB; rw [e2, decide_eq_true (e1.trans hv)]; simp
      have g1 : getL (S ++ [.lst (xs.map fun x => .bl (decide (0 ≤ x)))]) (.ref S.length) = some (xs.map fun x => .bl (decide (0 ≤ x))) := getL_ref get_n0
      have e2' : (xs.map fun x => decide (0 ≤ x)).all id = true := by rw [List.all_map]; exact e2
      have e4 : ((ts.zip xs).map fun tx => decide (tx.2 = (tx.1.1 : Int)) || decide (tx.2 = (tx.1.2 : Int))).all id = isShB ts xs := by rw [List.all_map, e3]; rfl
      refine ⟨[.lst (xs.map fun x => .bl (decide (0 ≤ x))), .lst ((ts.zip xs).map fun tx => .bl (decide (tx.2 = (tx.1.1 : Int)) || decide (tx.2 = (tx.1.2 : Int))))], ?_⟩
      simp only [i_is_sharing, mk2, List.replicate]
      simp [-x_itZip, -x_tgTup, tyB, hq, kit_ll, fLen, getQ_lst hq, getQ_lst hp, hlen', c1, fAll, g1, b1, e2', c2, getL_ref get_n0, b2, e4]
      simp [getL_ref get_n1, b2, e4]
    · have g1 : getL (S ++ [.lst (xs.map fun x => .bl (decide (0 ≤ x)))]) (.ref S.length) = some (xs.map fun x => .bl (decide (0 ≤ x))) := getL_ref get_n0
      have e2f : xs.all (fun x => decide (0 ≤ x)) = false := by simpa using e2
      have e3 : isShB ts xs = false := by unfold isShB; rw [e2f]; simp
      have e2' : (xs.map fun x => decide (0 ≤ x)).all id = false := by rw [List.all_map]; exact e2f
      refine ⟨[.lst (xs.map fun x => .bl (decide (0 ≤ x)))], ?_⟩
      simp only [i_is_sharing, mk2, List.replicate]
      simp [tyB, hq, kit_ll, fLen, getQ_lst hq, getQ_lst hp, hlen', c1, fAll, g1, b1, e2', e3]
  · have hlen' : (fNe (.int xs.length) (.int vs.length) S) = .ok (.bl true) S := by rw [hlen, decide_eq_false e1]; rfl
    have e3 : isShB ts xs = false := by unfold isShB; rw [decide_eq_false (by omega)]; simp
    refine ⟨[], ?_⟩
    simp only [i_is_sharing, mk2, List.replicate]
    simp [tyB, hq, kit_ll, fLen, getQ_lst hq, getQ_lst hp, hlen', e3]
end IL

end
section
set_option linter.all false
set_option maxRecDepth 100000
namespace IL
open PySem L2
theorem GS.isShB {ts : List (Nat × Nat)} {sh : List Nat} (h : GS ts sh) : isShB ts (sh.map fun (x : Nat) => (x : Int)) = true := by
  have hl := Paired.len h
  unfold IL.isShB
  rw [List.length_map, decide_eq_true hl.symm, Bool.true_and, Bool.and_eq_true]
  refine ⟨by simp, ?_⟩
  rw [List.all_eq_true]
  intro tx htx
  obtain ⟨k, hk⟩ := List.getElem?_of_mem htx
  obtain ⟨h1, h2⟩ := zip_get hk
  obtain ⟨x, h3, h4⟩ := map_get h2
  obtain ⟨y, h5, h6⟩ := Paired.get h h1
  rw [h3] at h5; cases h5
  rw [h4]
  rcases h6 with e | e <;> simp [e]
theorem map_vN (sh : List Nat) : sh.map vN = (sh.map fun (x : Nat) => (x : Int)).map .int := by rw [List.map_map]; rfl
theorem check_sharing_ok {S : Sto} {p q : Nat} {vs : List Va} {ts : List (Nat × Nat)} {sh : List Nat} (hp : S[p]? = some (.lst vs)) (ht : Tks S vs ts) (hq : S[q]? = some (LN sh)) (hs : GS ts sh) (hl : ts.length ≤ 100000) :
    ∃ T, i_check_sharing [.ref p, .ref q] S = .ok .non (S ++ T) := by
  have hl2 := Paired.len hs
  unfold LN at hq
  rw [map_vN] at hq
  obtain ⟨T, h⟩ := is_sharing_ok hp ht hq (by rw [List.length_map]; omega)
  rw [hs.isShB] at h
  refine ⟨T, ?_⟩
  simp only [i_check_sharing, mk2, List.replicate]
  simp [h]
/-- how many tasks each of n does -/
def loadsN (n : Nat) (sh : List Nat) : List Nat := (List.range n).map fun p => sh.count p
theorem loadsN_length (n : Nat) (sh : List Nat) : (loadsN n sh).length = n := by unfold loadsN; simp
theorem loadsN_get {n : Nat} {sh : List Nat} {p : Nat} (h : p < n) : (loadsN n sh)[p]? = some (sh.count p) := by unfold loadsN; simp [h]
theorem loadsN_snoc {n : Nat} {sh : List Nat} {p : Nat} (h : p < n) : loadsN n (sh ++ [p]) = (loadsN n sh).set p (sh.count p + 1) := by
  apply List.ext_getElem?
  intro i
  by_cases hi : i < n
  · rw [loadsN_get hi]
    by_cases e : p = i
    · subst e
      rw [List.getElem?_set_self (by rw [loadsN_length]; exact h)]
      simp [List.count_append]
    · rw [List.getElem?_set_ne e, loadsN_get hi, List.count_append]
      have : List.count i [p] = 0 := by rw [List.count_eq_zero]; simp; omega
      rw [this]; simp
  · rw [List.getElem?_eq_none (by rw [loadsN_length]; omega), List.getElem?_eq_none (by rw [List.length_set, loadsN_length]; omega)]
theorem loadsN_nil (n : Nat) : loadsN n [] = List.replicate n 0 := by unfold loadsN; rw [List.eq_replicate_iff]; simp
theorem fMul_rep1 {S : Sto} {p n : Nat} {v : Va} (h : S[p]? = some (.lst [v])) (hn : n ≤ 100000) : fMul (.ref p) (.int n) S = .ok (.ref S.length) (S ++ [.lst (List.replicate n v)]) := by
  have e : (List.replicate n [v]).flatten = List.replicate n v := by
    clear hn
    induction n with
    | zero => rfl
    | succ n ih => rw [List.replicate_succ, List.flatten_cons, ih, List.replicate_succ]; rfl
  simp only [fMul, h]
  rw [if_pos ⟨by omega, by omega, by simp; omega⟩]
  simp [e]
theorem LN_set (xs : List Nat) (k x : Nat) : Ob.lst ((xs.map vN).set k (vN x)) = LN (xs.set k x) := by unfold LN; rw [List.map_set]
theorem vN_get {xs : List Nat} {k x : Nat} (h : xs[k]? = some x) : (xs.map vN)[k]? = some (vN x) := by rw [List.getElem?_map, h]; rfl
theorem fIxL_lst {S : Sto} {p k : Nat} {xs : List Va} {v : Va} (h : S[p]? = some (.lst xs)) (hk : xs[k]? = some v) : fIxL (.ref p) (.int (k : Int)) S = .ok v S := by
  simp [fIxL, getL_ref h, atI_nat' hk]
theorem setL_lst {S : Sto} {p k : Nat} {xs : List Va} {v : Va} (h : S[p]? = some (.lst xs)) (hk : k < xs.length) : setL (.ref p) (.int (k : Int)) v S = .ok () (S.set p (.lst (xs.set k v))) := by
  simp [setL, h, ixN_lt hk]
theorem loads_of_ok {S : Sto} {q n : Nat} {sh : List Nat} (hq : S[q]? = some (LN sh)) (hx : ∀ x ∈ sh, x < n) (hn : n ≤ 1000) : i_loads_of [vN n, .ref q] S = .ok (.ref (S.length + 1)) (S ++ [.lst [.int 0], LN (loadsN n sh)]) := by
  have hq' : ∀ T, (S ++ T)[q]? = some (LN sh) := fun T => get_app hq
  have c0 : fMul (.ref S.length) (vN n) (S ++ [.lst [.int 0]]) = .ok (.ref (S.length + 1)) (S ++ [.lst [.int 0], .lst (List.replicate n (.int 0))]) := by
    have := fMul_rep1 (S := S ++ [.lst [.int 0]]) (p := S.length) (n := n) get_n0 (by omega)
    rw [show vN n = .int n from rfl, this]; simp
  obtain ⟨ρ', S', h1, w, h2, h3⟩ := for_nx (chk := sameAt (S ++ [.lst [.int 0], .lst (List.replicate n (.int 0))]) (.ref q)) (tg := tgName 3) (body := sAugS (iVar 2) (iVar 3) (iC (.int 1)))
    (fun k ρ S' => ∃ w, ρ = [some (vN n), some (.ref q), some (.ref (S.length + 1)), w] ∧ S' = S ++ [.lst [.int 0], LN (loadsN n (sh.take k))]) ((sh.map vN).map .one) [some (vN n), some (.ref q), some (.ref (S.length + 1)), none] (S ++ [.lst [.int 0], .lst (List.replicate n (.int 0))])
    ⟨none, rfl, by rw [List.take_zero, loadsN_nil]; simp [LN, vN]⟩
    (fun j it ρ S' hj ⟨w, e1, e2⟩ => by
      subst e1 e2
      obtain ⟨v, z1, rfl⟩ := map_one_get hj
      obtain ⟨x, z2, rfl⟩ := map_get z1
      have hxn : x < n := hx x (List.mem_of_getElem? z2)
      refine ⟨sameAt_app2 hq, _, _, rfl, [some (vN n), some (.ref q), some (.ref (S.length + 1)), some (vN x)], S ++ [.lst [.int 0], LN (loadsN n (sh.take (j + 1)))], ?_, _, rfl, rfl⟩
      have hl : (S ++ [Ob.lst [Va.int 0], LN (loadsN n (sh.take j))])[S.length + 1]? = some (.lst ((loadsN n (sh.take j)).map vN)) := get_n1
      have g1 := fIxL_lst (k := x) hl (vN_get (loadsN_get hxn))
      have g2 := setL_lst (k := x) (v := vN ((sh.take j).count x + 1)) hl (by rw [List.length_map, loadsN_length]; exact hxn)
      rw [LN_set, ← loadsN_snoc hxn, set_n1] at g2
      have e : sh.take j ++ [x] = sh.take (j + 1) := by rw [List.take_add_one, z2]; rfl
      rw [e] at g2
      have g1' : fIxL (.ref (S.length + 1)) (vN x) (S ++ [Ob.lst [Va.int 0], LN (loadsN n (sh.take j))]) = .ok (.int ((sh.take j).count x : Nat)) (S ++ [Ob.lst [Va.int 0], LN (loadsN n (sh.take j))]) := g1
      have g2' : setL (.ref (S.length + 1)) (vN x) (.int (((sh.take j).count x : Nat) + 1)) (S ++ [Ob.lst [Va.int 0], LN (loadsN n (sh.take j))]) = .ok () (S ++ [Ob.lst [Va.int 0], LN (loadsN n (sh.take (j + 1)))]) := g2
      simp [g1', g2'])
    (fun ρ S' ⟨w, e1, e2⟩ => by subst e2; exact sameAt_app2 hq)
  rw [List.length_map, List.length_map, List.take_length] at h3
  subst h2 h3
  simp only [i_loads_of, mk2, List.replicate]
  simp [c0, getL, hq', LN] at h1 ⊢
  simp [h1]
end IL

end
section
set_option linter.all false
namespace MR
/-! rings: the walk -/
structure W where
  found : List (List Nat)
  way : List Nat
  here : Nat
  met : List Nat
  g : List (List Nat)
def wstep (a : Nat → Nat) (w : W) : W :=
  if a ((w.g.getD w.here []).getLastD 0) ∈ w.met then
    ⟨w.found ++ [(w.way ++ [(w.g.getD w.here []).getLastD 0]).drop (w.met.idxOf (a ((w.g.getD w.here []).getLastD 0)))], (w.way ++ [(w.g.getD w.here []).getLastD 0]).take (w.met.idxOf (a ((w.g.getD w.here []).getLastD 0))),
      a ((w.g.getD w.here []).getLastD 0), w.met.take (w.met.idxOf (a ((w.g.getD w.here []).getLastD 0)) + 1), w.g.set w.here (w.g.getD w.here []).dropLast⟩
  else ⟨w.found, w.way ++ [(w.g.getD w.here []).getLastD 0], a ((w.g.getD w.here []).getLastD 0), w.met ++ [a ((w.g.getD w.here []).getLastD 0)], w.g.set w.here (w.g.getD w.here []).dropLast⟩
def wgo (a : Nat → Nat) : Nat → W → W
  | 0, w => w
  | k + 1, w => if w.g.getD w.here [] ≠ [] ∨ w.way ≠ [] then wgo a k (wstep a w) else w
def b01 (p : Prop) [Decidable p] : Nat := if p then 1 else 0
/-- each one's tasks are theirs -/
def WfG (n : Nat) (s a : Nat → Nat) (g : List (List Nat)) : Prop := g.length = n ∧ (∀ p l, g[p]? = some l → ∀ t ∈ l, s t = p) ∧ ∀ t ∈ g.flatten, a t < n
def ringOk (s a : Nat → Nat) (r : List Nat) : Prop := r ≠ [] ∧ (r.map s).Nodup ∧ r.map a = (r.map s).drop 1 ++ (r.map s).take 1
/-- the walk's facts -/
structure Wi (n : Nat) (s a : Nat → Nat) (p : Nat) (g0 : List (List Nat)) (w : W) : Prop where
  wf : WfG n s a w.g
  pn : p < n
  len : w.met.length = w.way.length + 1
  hd : w.met[0]? = some p
  lst : w.met[w.way.length]? = some w.here
  nd : w.met.Nodup
  sd : w.way.map s = w.met.take w.way.length
  an : w.way.map a = w.met.drop 1
  lt : ∀ q ∈ w.met, q < n
  fd : ∀ r ∈ w.found, ringOk s a r
  pm : (w.found.flatten ++ w.way ++ w.g.flatten).Perm g0.flatten
  bal : ∀ q, w.g.flatten.countP (fun t => s t = q) + b01 (q = p) = w.g.flatten.countP (fun t => a t = q) + b01 (q = w.here)
theorem getD_some {g : List (List Nat)} {p : Nat} {l : List Nat} (h : g[p]? = some l) : g.getD p [] = l := by simp [List.getD, h]
theorem getD_of_lt {g : List (List Nat)} {p : Nat} (h : p < g.length) : g[p]? = some (g.getD p []) := by simp [List.getD, h]
theorem flatten_pop : ∀ {g : List (List Nat)} {p : Nat} {l : List Nat} {x : Nat}, g[p]? = some (l ++ [x]) → g.flatten.Perm (x :: (g.set p l).flatten)
  | [], p, l, x, h => by simp at h
  | m :: g, 0, l, x, h => by
    simp at h; subst h
    simp only [List.set_cons_zero, List.flatten_cons, List.append_assoc]
    exact List.perm_middle
  | m :: g, p + 1, l, x, h => by
    simp only [List.set_cons_succ, List.flatten_cons]
    have := flatten_pop (g := g) (p := p) (l := l) (x := x) (by simpa using h)
    exact (this.append_left m).trans List.perm_middle
theorem WfG.mem {n : Nat} {s a : Nat → Nat} {g : List (List Nat)} (h : WfG n s a g) {t : Nat} (ht : t ∈ g.flatten) : ∃ l, g[s t]? = some l ∧ t ∈ l := by
  rw [List.mem_flatten] at ht
  obtain ⟨l, hl, htl⟩ := ht
  obtain ⟨p, hp⟩ := List.getElem?_of_mem hl
  have := h.2.1 p l hp t htl
  subst this
  exact ⟨l, hp, htl⟩
theorem count_s {n : Nat} {s a : Nat → Nat} {g : List (List Nat)} (h : WfG n s a g) {p : Nat} (hp : p < n) (hne : 0 < g.flatten.countP (fun t => s t = p)) : g.getD p [] ≠ [] := by
  rw [List.countP_pos_iff] at hne
  obtain ⟨t, ht, e⟩ := hne
  obtain ⟨l, hl, htl⟩ := h.mem ht
  have e' : s t = p := by simpa using e
  rw [e'] at hl
  rw [getD_some hl]
  intro z; rw [z] at htl; cases htl
theorem eq_snoc {l : List Nat} (h : l ≠ []) : l = l.dropLast ++ [l.getLastD 0] := by
  have := List.dropLast_concat_getLast h
  rw [← this]
  simp [List.getLastD_eq_getLast?, List.getLast?_eq_some_getLast h]
theorem Wi.ne {n : Nat} {s a : Nat → Nat} {p : Nat} {g0 : List (List Nat)} {w : W} (i : Wi n s a p g0 w) (h : w.g.getD w.here [] ≠ [] ∨ w.way ≠ []) : w.g.getD w.here [] ≠ [] := by
  rcases h with h | h
  · exact h
  have hl : 0 < w.way.length := List.length_pos_iff.mpr h
  have hne : w.here ≠ p := by
    intro e
    have h1 := i.hd; have h2 := i.lst
    rw [e] at h2
    have := (List.getElem?_inj (by rw [i.len]; omega) i.nd).mp (h1.trans h2.symm)
    omega
  have hb := i.bal w.here
  simp only [b01, if_true, hne, if_false] at hb
  have hn : w.here < n := i.lt _ (List.mem_of_getElem? i.lst)
  exact count_s i.wf hn (by omega)
theorem Wi.step {n : Nat} {s a : Nat → Nat} {p : Nat} {g0 : List (List Nat)} {w : W} (i : Wi n s a p g0 w) (h : w.g.getD w.here [] ≠ []) : Wi n s a p g0 (wstep a w) ∧ (wstep a w).g.flatten.length + 1 = w.g.flatten.length := by
  have hn : w.here < n := i.lt _ (List.mem_of_getElem? i.lst)
  have hg : w.g[w.here]? = some ((w.g.getD w.here []).dropLast ++ [(w.g.getD w.here []).getLastD 0]) := by
    rw [← eq_snoc h]; exact getD_of_lt (by rw [i.wf.1]; exact hn)
  have hpop := flatten_pop hg
  generalize hx : (w.g.getD w.here []).getLastD 0 = x at *
  generalize hl : (w.g.getD w.here []).dropLast = l at *
  have hsx : s x = w.here := i.wf.2.1 _ _ hg x (by simp)
  have hxm : x ∈ w.g.flatten := hpop.symm.subset List.mem_cons_self
  have hax : a x < n := i.wf.2.2 x hxm
  have wf' : WfG n s a (w.g.set w.here l) := by
    refine ⟨by rw [List.length_set]; exact i.wf.1, fun q m hq t ht => ?_, fun t ht => i.wf.2.2 t (hpop.symm.subset (List.mem_cons_of_mem _ ht))⟩
    by_cases e : w.here = q
    · subst e
      rw [List.getElem?_set_self (by rw [i.wf.1]; exact hn)] at hq
      cases hq
      exact i.wf.2.1 _ _ hg t (by simp [ht])
    · rw [List.getElem?_set_ne e] at hq
      exact i.wf.2.1 _ _ hq t ht
  have bal' : ∀ q, (w.g.set w.here l).flatten.countP (fun t => s t = q) + b01 (q = p) = (w.g.set w.here l).flatten.countP (fun t => a t = q) + b01 (q = a x) := by
    intro q
    have hb := i.bal q
    rw [hpop.countP_eq, hpop.countP_eq, List.countP_cons, List.countP_cons, hsx] at hb
    have e1 : (q = w.here) = (w.here = q) := propext ⟨Eq.symm, Eq.symm⟩
    have e2 : (q = a x) = (a x = q) := propext ⟨Eq.symm, Eq.symm⟩
    simp only [b01, decide_eq_true_eq, e1, e2] at hb ⊢
    omega
  have nw : (w.way ++ [x]).length = w.met.length := by simp [i.len]
  have sd' : (w.way ++ [x]).map s = w.met := by
    rw [List.map_append, i.sd, List.map_singleton, hsx]
    have e : w.met = w.met.take (w.way.length + 1) := by rw [← i.len, List.take_length]
    conv => rhs; rw [e, List.take_add_one, i.lst]
    rfl
  have an' : (w.way ++ [x]).map a = w.met.drop 1 ++ [a x] := by rw [List.map_append, i.an]; rfl
  unfold wstep
  simp only [hx, hl]
  split
  · rename_i hin
    generalize hf : w.met.idxOf (a x) = f
    have hfl : f < w.met.length := by rw [← hf]; exact List.idxOf_lt_length_of_mem hin
    have hfg : w.met[f]? = some (a x) := by
      rw [List.getElem?_eq_getElem hfl]; congr 1; subst hf; exact List.getElem_idxOf _
    have tl : ((w.way ++ [x]).take f).length = f := by rw [List.length_take, nw]; omega
    refine ⟨⟨wf', i.pn, ?_, ?_, ?_, ?_, ?_, ?_, ?_, ?_, ?_, bal'⟩, ?_⟩
    · simp only [tl, List.length_take]; omega
    · simp only; rw [List.getElem?_take_of_lt (by omega)]; exact i.hd
    · simp only [tl]; rw [List.getElem?_take_of_lt (by omega)]; exact hfg
    · exact i.nd.sublist (List.take_sublist _ _)
    · simp only [tl]
      rw [List.map_take, sd', List.take_take]
      congr 1; omega
    · simp only
      rw [List.map_take, an', List.take_append_of_le_length (by rw [List.length_drop]; omega), List.drop_take]
      congr 1
    · intro q hq; exact i.lt q (List.mem_of_mem_take hq)
    · intro r hr
      simp only [List.mem_append, List.mem_singleton] at hr
      rcases hr with hr | rfl
      · exact i.fd r hr
      · refine ⟨?_, ?_, ?_⟩
        · intro z
          have := congrArg List.length z
          rw [List.length_drop, nw] at this
          simp at this; omega
        · rw [List.map_drop, sd']
          exact i.nd.sublist (List.drop_sublist _ _)
        · rw [List.map_drop, an', List.map_drop, sd', List.drop_drop, List.drop_append_of_le_length (by rw [List.length_drop]; omega), List.drop_drop]
          rw [Nat.add_comm 1 f]
          congr 1
          rw [List.take_one, List.head?_drop, hfg]
          rfl
    · simp only
      have e : (w.way ++ [x]).take f ++ (w.way ++ [x]).drop f = w.way ++ [x] := List.take_append_drop _ _
      refine List.Perm.trans ?_ i.pm
      rw [List.flatten_append]
      simp only [List.flatten_cons, List.flatten_nil, List.append_nil]
      have h1 : (w.found.flatten ++ (w.way ++ [x]).drop f ++ (w.way ++ [x]).take f ++ (w.g.set w.here l).flatten).Perm (w.found.flatten ++ (w.way ++ [x]) ++ (w.g.set w.here l).flatten) := by
        refine List.Perm.append_right _ ?_
        rw [List.append_assoc]
        refine List.Perm.append_left _ ?_
        refine List.perm_append_comm.trans ?_
        rw [e]
      refine h1.trans ?_
      rw [List.append_assoc, List.append_assoc, List.append_assoc]
      refine List.Perm.append_left _ (List.Perm.append_left _ ?_)
      exact hpop.symm
    · have := hpop.length_eq
      simp at this ⊢
      omega
  · rename_i hin
    refine ⟨⟨wf', i.pn, ?_, ?_, ?_, ?_, ?_, ?_, ?_, i.fd, ?_, bal'⟩, ?_⟩
    · simp [i.len]
    · simp only; rw [List.getElem?_append_left (by rw [i.len]; omega)]; exact i.hd
    · simp only [nw, List.getElem?_concat_length]
    · simp only
      rw [List.nodup_append]
      refine ⟨i.nd, by simp, ?_⟩
      intro q hq r hr
      simp at hr
      subst hr
      intro e; subst e; exact hin hq
    · simp only [nw]
      rw [sd', List.take_left']
      rfl
    · simp only
      rw [an', List.drop_append_of_le_length (by rw [i.len]; omega)]
    · intro q hq
      simp only [List.mem_append, List.mem_singleton] at hq
      rcases hq with hq | rfl
      · exact i.lt q hq
      · exact hax
    · simp only
      refine List.Perm.trans ?_ i.pm
      rw [List.append_assoc, List.append_assoc, List.append_assoc]
      refine List.Perm.append_left _ (List.Perm.append_left _ ?_)
      exact hpop.symm
    · have := hpop.length_eq
      simp at this ⊢
      omega
theorem Wi.init {n : Nat} {s a : Nat → Nat} {p : Nat} {g : List (List Nat)} (wf : WfG n s a g) (pn : p < n) (bal : ∀ q, g.flatten.countP (fun t => s t = q) = g.flatten.countP (fun t => a t = q)) : Wi n s a p g ⟨[], [], p, [p], g⟩ := by
  refine ⟨wf, pn, rfl, rfl, rfl, by simp, rfl, rfl, ?_, ?_, ?_, fun q => by rw [bal q]⟩
  · intro q hq; simp at hq; subst hq; exact pn
  · intro r hr; cases hr
  · simp
/-- at its end -/
theorem wgo_end {n : Nat} {s a : Nat → Nat} {p : Nat} {g0 : List (List Nat)} : ∀ (k : Nat) {w : W}, Wi n s a p g0 w → w.g.flatten.length = k → Wi n s a p g0 (wgo a k w) ∧ (wgo a k w).g.getD (wgo a k w).here [] = [] ∧ (wgo a k w).way = []
  | 0, w, i, h => by
    have e : w.g.getD w.here [] = [] := by
      cases q : w.g[w.here]? with
      | none => simp [List.getD, q]
      | some l =>
        rw [getD_some q]
        have := List.mem_of_getElem? q
        cases l with
        | nil => rfl
        | cons x l =>
          have : x ∈ w.g.flatten := List.mem_flatten.mpr ⟨_, this, List.mem_cons_self⟩
          rw [List.length_eq_zero_iff.mp h] at this; cases this
    refine ⟨i, e, ?_⟩
    show w.way = []
    cases q : w.way with
    | nil => rfl
    | cons x l => exact absurd e (i.ne (.inr (by rw [q]; simp)))
  | k + 1, w, i, h => by
    unfold wgo
    split
    · rename_i hc
      obtain ⟨i', hl⟩ := i.step (i.ne hc)
      exact wgo_end k i' (by omega)
    · rename_i hc
      have hc1 : w.g.getD w.here [] = [] := Classical.byContradiction fun z => hc (.inl z)
      have hc2 : w.way = [] := Classical.byContradiction fun z => hc (.inr z)
      exact ⟨i, hc1, hc2⟩
def rfF (a : Nat → Nat) (p : Nat) (g : List (List Nat)) : List (List Nat) × List (List Nat) := ((wgo a g.flatten.length ⟨[], [], p, [p], g⟩).found, (wgo a g.flatten.length ⟨[], [], p, [p], g⟩).g)
def Bal (s a : Nat → Nat) (g : List (List Nat)) : Prop := ∀ q, g.flatten.countP (fun t => s t = q) = g.flatten.countP (fun t => a t = q)
theorem rf_ok {n : Nat} {s a : Nat → Nat} {p : Nat} {g : List (List Nat)} (wf : WfG n s a g) (pn : p < n) (bal : Bal s a g) :
    WfG n s a (rfF a p g).2 ∧ Bal s a (rfF a p g).2 ∧ (rfF a p g).2.getD p [] = [] ∧ (∀ r ∈ (rfF a p g).1, ringOk s a r) ∧ ((rfF a p g).1.flatten ++ (rfF a p g).2.flatten).Perm g.flatten := by
  obtain ⟨i, h1, h2⟩ := wgo_end g.flatten.length (Wi.init wf pn bal) rfl
  have hp : (wgo a g.flatten.length ⟨[], [], p, [p], g⟩).here = p := by
    have e1 := i.lst; have e2 := i.hd
    rw [h2] at e1
    simp only [List.length_nil] at e1
    rw [e2] at e1
    exact (Option.some.inj e1).symm
  refine ⟨i.wf, fun q => ?_, ?_, i.fd, ?_⟩
  · have := i.bal q
    rw [hp] at this
    exact Nat.add_right_cancel this
  · rw [hp] at h1; exact h1
  · have := i.pm
    rw [h2, List.append_nil] at this
    exact this
/-- person after person -/
def rgo (a : Nat → Nat) : List Nat → List (List Nat) × List (List Nat) → List (List Nat) × List (List Nat)
  | [], x => x
  | p :: ps, (f, g) => if g.getD p [] ≠ [] then rgo a ps (f ++ (rfF a p g).1, (rfF a p g).2) else rgo a ps (f, g)
structure Ri (n : Nat) (s a : Nat → Nat) (g0 : List (List Nat)) (x : List (List Nat) × List (List Nat)) : Prop where
  wf : WfG n s a x.2
  bal : Bal s a x.2
  fd : ∀ r ∈ x.1, ringOk s a r
  pm : (x.1.flatten ++ x.2.flatten).Perm g0.flatten
theorem Ri.turn {n : Nat} {s a : Nat → Nat} {g0 : List (List Nat)} {f g : List (List Nat)} {p : Nat} (i : Ri n s a g0 (f, g)) (hp : p < n) : Ri n s a g0 (f ++ (rfF a p g).1, (rfF a p g).2) := by
  obtain ⟨h1, h2, h3, h4, h5⟩ := rf_ok i.wf hp i.bal
  refine ⟨h1, h2, fun r hr => ?_, ?_⟩
  · rcases List.mem_append.mp hr with hr | hr
    · exact i.fd r hr
    · exact h4 r hr
  · show ((f ++ (rfF a p g).1).flatten ++ (rfF a p g).2.flatten).Perm g0.flatten
    rw [List.flatten_append, List.append_assoc]
    exact (List.Perm.append_left _ h5).trans i.pm
theorem WfG.keep {n : Nat} {s a : Nat → Nat} {g g' : List (List Nat)} {q : Nat} (w : WfG n s a g) (w' : WfG n s a g') (h : ∀ t ∈ g'.flatten, t ∈ g.flatten) (e : g.getD q [] = []) : g'.getD q [] = [] := by
  cases z : g'[q]? with
  | none => simp [List.getD, z]
  | some l =>
    rw [getD_some z]
    cases l with
    | nil => rfl
    | cons x l =>
      have hm : x ∈ g'.flatten := List.mem_flatten.mpr ⟨_, List.mem_of_getElem? z, List.mem_cons_self⟩
      have hs := w'.2.1 q _ z x List.mem_cons_self
      obtain ⟨m, hm1, hm2⟩ := w.mem (h x hm)
      rw [hs] at hm1
      rw [getD_some hm1] at e
      rw [e] at hm2; cases hm2
theorem rgo_ok {n : Nat} {s a : Nat → Nat} {g0 : List (List Nat)} : ∀ (ps : List Nat) {x : List (List Nat) × List (List Nat)}, (∀ p ∈ ps, p < n) → Ri n s a g0 x → Ri n s a g0 (rgo a ps x) ∧ (∀ t ∈ (rgo a ps x).2.flatten, t ∈ x.2.flatten) ∧ ∀ p ∈ ps, (rgo a ps x).2.getD p [] = []
  | [], x, _, i => ⟨i, fun _ h => h, fun _ h => by cases h⟩
  | p :: ps, (f, g), hp, i => by
    unfold rgo
    have hps : ∀ q ∈ ps, q < n := fun q hq => hp q (List.mem_cons_of_mem _ hq)
    split
    · have i' := i.turn (p := p) (hp p List.mem_cons_self)
      obtain ⟨j, h1, h2⟩ := rgo_ok ps hps i'
      have sub : ∀ t ∈ (rfF a p g).2.flatten, t ∈ g.flatten := fun t ht => (rf_ok i.wf (hp p List.mem_cons_self) i.bal).2.2.2.2.subset (List.mem_append_right _ ht)
      refine ⟨j, fun t ht => sub t (h1 t ht), fun q hq => ?_⟩
      rcases List.mem_cons.mp hq with rfl | hq
      · exact WfG.keep i'.wf j.wf h1 (rf_ok i.wf (hp _ List.mem_cons_self) i.bal).2.2.1
      · exact h2 q hq
    · rename_i hc
      obtain ⟨j, h1, h2⟩ := rgo_ok ps hps i
      refine ⟨j, h1, fun q hq => ?_⟩
      rcases List.mem_cons.mp hq with rfl | hq
      · exact WfG.keep i.wf j.wf h1 (Classical.byContradiction fun z => hc z)
      · exact h2 q hq
/-! what each gives -/
def giv (n m : Nat) (s a : Nat → Nat) : List (List Nat) := (List.range n).map fun p => (List.range m).filter fun t => decide (s t = p ∧ a t ≠ p)
def ringsF (n m : Nat) (s a : Nat → Nat) : List (List Nat) := (rgo a (List.range n) ([], giv n m s a)).1
theorem giv_get {n m : Nat} {s a : Nat → Nat} {p : Nat} (h : p < n) : (giv n m s a)[p]? = some ((List.range m).filter fun t => decide (s t = p ∧ a t ≠ p)) := by
  unfold giv; simp [h]
theorem giv_len {n m : Nat} {s a : Nat → Nat} : (giv n m s a).length = n := by unfold giv; simp
/-- the tasks that differ, by their doers, are all that differ -/
theorem giv_flat : ∀ (n m : Nat) (s a : Nat → Nat), (giv n m s a).flatten.Perm ((List.range m).filter fun t => decide (s t < n ∧ a t ≠ s t))
  | 0, m, s, a => by
    have : (List.filter (fun t => decide (s t < 0 ∧ a t ≠ s t)) (List.range m)) = [] := by
      rw [List.filter_eq_nil_iff]; intro t _; simp
    rw [this]; exact List.Perm.refl _
  | n + 1, m, s, a => by
    have e : (giv (n + 1) m s a).flatten = (giv n m s a).flatten ++ (List.range m).filter fun t => decide (s t = n ∧ a t ≠ n) := by
      unfold giv; rw [List.range_succ, List.map_append, List.flatten_append]; simp
    rw [e]
    refine ((giv_flat n m s a).append_right _).trans ?_
    have key : ∀ l : List Nat, (l.filter (fun t => decide (s t < n ∧ a t ≠ s t)) ++ l.filter fun t => decide (s t = n ∧ a t ≠ n)).Perm (l.filter fun t => decide (s t < n + 1 ∧ a t ≠ s t)) := by
      intro l
      induction l with
      | nil => exact List.Perm.refl _
      | cons t l ih =>
        rw [List.filter_cons, List.filter_cons, List.filter_cons]
        by_cases h1 : s t < n
        · have h2 : ¬ (s t = n ∧ a t ≠ n) := by omega
          by_cases h3 : a t ≠ s t
          · have h4 : s t < n + 1 ∧ a t ≠ s t := ⟨by omega, h3⟩
            simp only [h1, h2, h3, h4, decide_true, decide_false, if_true, and_self, List.cons_append, ne_eq, not_false_eq_true]
            exact ih.cons t
          · have h4 : ¬ (s t < n + 1 ∧ a t ≠ s t) := fun z => h3 z.2
            have h5 : ¬ (s t < n ∧ a t ≠ s t) := fun z => h3 z.2
            rw [decide_eq_false h2, decide_eq_false h4, decide_eq_false h5]
            exact ih
        · have h5 : ¬ (s t < n ∧ a t ≠ s t) := fun z => h1 z.1
          rw [decide_eq_false h5]
          by_cases h6 : s t = n ∧ a t ≠ n
          · have h7 : s t < n + 1 ∧ a t ≠ s t := ⟨by omega, by rw [h6.1]; exact h6.2⟩
            rw [decide_eq_true h6, decide_eq_true h7]
            exact List.perm_middle.trans (ih.cons t)
          · have h7 : ¬ (s t < n + 1 ∧ a t ≠ s t) := by
              rintro ⟨z1, z2⟩
              exact h6 ⟨by omega, by have : s t = n := by omega
                                     rw [this] at z2; exact z2⟩
            rw [decide_eq_false h6, decide_eq_false h7]
            exact ih
    exact key _
theorem giv_wf {n m : Nat} {s a : Nat → Nat} (ha : ∀ t < m, a t < n) : WfG n s a (giv n m s a) := by
  refine ⟨giv_len, fun p l hp t ht => ?_, fun t ht => ?_⟩
  · have hpn : p < n := by
      have := (List.getElem?_eq_some_iff.mp hp).1
      rwa [giv_len] at this
    rw [giv_get hpn] at hp
    cases hp
    have := (List.mem_filter.mp ht).2
    simp at this
    exact this.1
  · have := (giv_flat n m s a).subset ht
    have := (List.mem_filter.mp this).1
    exact ha t (List.mem_range.mp this)
theorem countP_split (s a : Nat → Nat) (q : Nat) (l : List Nat) : (l.filter fun t => decide (a t ≠ s t)).countP (fun t => s t = q) + l.countP (fun t => a t = q) = (l.filter fun t => decide (a t ≠ s t)).countP (fun t => a t = q) + l.countP (fun t => s t = q) := by
  induction l with
  | nil => rfl
  | cons t l ih =>
    rw [List.filter_cons]
    by_cases h : a t = s t
    · have h2 : ¬ (a t ≠ s t) := fun z => z h
      rw [decide_eq_false h2]
      simp only [Bool.false_eq_true, if_false, List.countP_cons, h]
      omega
    · have h2 : a t ≠ s t := h
      rw [decide_eq_true h2]
      simp only [if_true, List.countP_cons]
      omega
theorem giv_bal {n m : Nat} {s a : Nat → Nat} (hs : ∀ t < m, s t < n) (hb : ∀ q, (List.range m).countP (fun t => s t = q) = (List.range m).countP (fun t => a t = q)) : Bal s a (giv n m s a) := by
  intro q
  have hp := giv_flat n m s a
  have e : ((List.range m).filter fun t => decide (s t < n ∧ a t ≠ s t)) = (List.range m).filter fun t => decide (a t ≠ s t) := by
    apply List.filter_congr
    intro t ht
    have := hs t (List.mem_range.mp ht)
    simp [this]
  rw [e] at hp
  rw [hp.countP_eq, hp.countP_eq]
  have := countP_split s a q (List.range m)
  rw [hb q] at this
  omega
/-- rings are told -/
theorem rings_ok {n m : Nat} {s a : Nat → Nat} (hs : ∀ t < m, s t < n) (ha : ∀ t < m, a t < n) (hb : ∀ q, (List.range m).countP (fun t => s t = q) = (List.range m).countP (fun t => a t = q)) :
    (∀ r ∈ ringsF n m s a, ringOk s a r) ∧ (ringsF n m s a).flatten.Perm ((List.range m).filter fun t => decide (s t ≠ a t)) := by
  have i0 : Ri n s a (giv n m s a) ([], giv n m s a) := ⟨giv_wf ha, giv_bal hs hb, fun r hr => (by cases hr), by simp⟩
  obtain ⟨j, h1, h2⟩ := rgo_ok (List.range n) (fun p hp => List.mem_range.mp hp) i0
  have e : (rgo a (List.range n) ([], giv n m s a)).2.flatten = [] := by
    rw [List.flatten_eq_nil_iff]
    intro l hl
    obtain ⟨q, hq⟩ := List.getElem?_of_mem hl
    have hqn : q < n := by
      have := (List.getElem?_eq_some_iff.mp hq).1
      rwa [j.wf.1] at this
    have := h2 q (List.mem_range.mpr hqn)
    rwa [getD_some hq] at this
  refine ⟨j.fd, ?_⟩
  have hp := j.pm
  rw [e, List.append_nil] at hp
  refine hp.trans ((giv_flat n m s a).trans ?_)
  have e2 : ((List.range m).filter fun t => decide (s t < n ∧ a t ≠ s t)) = (List.range m).filter fun t => decide (s t ≠ a t) := by
    apply List.filter_congr
    intro t ht
    have := hs t (List.mem_range.mp ht)
    simp [this, eq_comm]
  rw [e2]
end MR

end
section
set_option linter.all false
set_option maxRecDepth 100000
set_option maxHeartbeats 1000000
namespace IL
open PySem L2 MR
theorem gs {S : Sto} {i j : Nat} {o : Ob} (h : i ≠ j) : (S.set i o)[j]? = S[j]? := List.getElem?_set_ne h
theorem gself {S : Sto} {i : Nat} {o o' : Ob} (h : S[i]? = some o') : (S.set i o)[i]? = some o := List.getElem?_set_self (List.getElem?_eq_some_iff.mp h).1
theorem glt {S : Sto} {i : Nat} {o : Ob} (h : S[i]? = some o) : i < S.length := (List.getElem?_eq_some_iff.mp h).1
theorem gapp {S T : Sto} {j : Nat} (h : j < S.length) : (S ++ T)[j]? = S[j]? := List.getElem?_append_left h
theorem gnew {S T : Sto} {o : Ob} : (S ++ o :: T)[S.length]? = some o := get_n0
structure RF (S0 : Sto) (n gb : Nat) (w : MR.W) (wa ma : Nat) (fr : List Nat) (S : Sto) : Prop where
  keep : ∀ a, a < S0.length → (a < gb ∨ gb + n ≤ a) → S[a]? = S0[a]?
  giv : ∀ i l, w.g[i]? = some l → S[gb + i]? = some (LN l)
  fnd : S[S0.length]? = some (.lst (fr.map .ref))
  wy : S[wa]? = some (LN w.way)
  mt : S[ma]? = some (LN w.met)
  wal : S0.length < wa
  mal : S0.length < ma
  wm : wa ≠ ma
  nd : fr.Nodup
  rg : Paired (fun r l => S0.length < r ∧ r ≠ wa ∧ r ≠ ma ∧ S[r]? = some (LN l)) fr w.found
theorem RF.app {S0 : Sto} {n gb : Nat} {w : MR.W} {wa ma : Nat} {fr : List Nat} {S T : Sto} (h : RF S0 n gb w wa ma fr S) : RF S0 n gb w wa ma fr (S ++ T) :=
  ⟨fun a h1 h2 => by rw [gapp (by have := glt h.fnd; omega)]; exact h.keep a h1 h2, fun i l e => get_app (h.giv i l e), get_app h.fnd, get_app h.wy, get_app h.mt, h.wal, h.mal, h.wm, h.nd, Paired.imp (fun r l ⟨a, b, c, d⟩ => ⟨a, b, c, get_app d⟩) h.rg⟩
theorem fNe_nil {S : Sto} {p : Nat} {xs : List Nat} {q : Nat} (h : S[p]? = some (LN xs)) (hq : S[q]? = some (.lst [])) : fNe (.ref p) (.ref q) S = .ok (.bl (!decide (xs = []))) S := by
  unfold LN at h
  simp only [fNe, toP, h, hq, toP_N, List.map_nil, allO, PyData.eqv]
  have := eqv_N xs []
  rw [List.map_nil] at this
  rw [this]
theorem mPop_LN {S : Sto} {p : Nat} {l : List Nat} {x : Nat} (h : S[p]? = some (LN (l ++ [x]))) : mPop (.ref p) [] S = .ok (vN x) (S.set p (LN l)) := by
  unfold LN at h ⊢
  simp [mPop, h]
theorem mAppend_LN {S : Sto} {p : Nat} {l : List Nat} {x : Nat} (h : S[p]? = some (LN l)) (hl : l.length < 100000) : mAppend (.ref p) [vN x] S = .ok .non (S.set p (LN (l ++ [x]))) := by
  unfold LN at h ⊢
  simp [mAppend, h, hl]
theorem inA_N (x : Nat) (l : List Nat) : inA (vN x) (l.map vN) = decide (x ∈ l) := by
  induction l with
  | nil => simp [inA]
  | cons y l ih =>
    unfold inA at ih ⊢
    rw [List.map_cons, List.any_cons, ih]
    have : eqA (vN y) (vN x) = decide (x = y) := by
      show ((y : Int) == (x : Int)) = _
      by_cases h : x = y
      · subst h; simp
      · rw [decide_eq_false h]; simp; omega
    rw [this]
    by_cases h1 : x = y <;> by_cases h2 : x ∈ l <;> simp [h1, h2]
theorem flat_N (l : List Nat) : (l.map vN).all flatA = true := by
  induction l with
  | nil => rfl
  | cons y l ih => rw [List.map_cons, List.all_cons, ih]; rfl
theorem fIn_LN {S : Sto} {p : Nat} {l : List Nat} {x : Nat} (h : S[p]? = some (LN l)) : fIn false (vN x) (.ref p) S = .ok (.bl (decide (x ∈ l))) S := by
  unfold LN at h
  simp only [fIn, getQ_lst h]
  rw [if_pos ⟨rfl, flat_N l⟩]
  simp [inA_N]
theorem fNotIn_LN {S : Sto} {p : Nat} {l : List Nat} {x : Nat} (h : S[p]? = some (LN l)) : fIn true (vN x) (.ref p) S = .ok (.bl (!decide (x ∈ l))) S := by
  unfold LN at h
  simp only [fIn, getQ_lst h]
  rw [if_pos ⟨rfl, flat_N l⟩]
  simp [inA_N]
theorem findIdx_N {l : List Nat} {x : Nat} (h : x ∈ l) : (l.map vN).findIdx? (fun z => eqA z (vN x)) = some (l.idxOf x) := by
  induction l with
  | nil => cases h
  | cons y l ih =>
    have e : eqA (vN y) (vN x) = (y == x) := by
      show ((y : Int) == (x : Int)) = _
      by_cases h : y = x
      · subst h; simp
      · rw [beq_eq_false_iff_ne.mpr h]; simp; omega
    rw [List.map_cons, List.findIdx?_cons, e, List.idxOf_cons]
    by_cases hy : y = x
    · subst hy; simp
    · rw [beq_eq_false_iff_ne.mpr hy]
      rw [ih (by rcases List.mem_cons.mp h with z | z; exact absurd z.symm hy; exact z)]
      simp
theorem mIndex_LN {S : Sto} {p : Nat} {l : List Nat} {x : Nat} (h : S[p]? = some (LN l)) (hx : x ∈ l) : mIndex (.ref p) [vN x] S = .ok (vN (l.idxOf x)) S := by
  unfold LN at h
  simp only [mIndex, getL_ref h]
  rw [if_pos ⟨rfl, flat_N l⟩, findIdx_N hx]
  rfl
theorem cut_from {α : Type} (xs : List α) (k : Nat) : cut xs (some (k : Int)) none = xs.drop k := by
  unfold cut
  rw [HT.sIx_none, HT.sIx_nat]
  by_cases h : k ≤ xs.length
  · rw [Nat.min_eq_left h, List.take_of_length_le (by rw [List.length_drop]; omega)]
  · rw [Nat.min_eq_right (by omega), List.drop_of_length_le (Nat.le_refl _), List.drop_of_length_le (by omega)]
    simp
theorem cut_to {α : Type} (xs : List α) (k : Nat) : cut xs none (some (k : Int)) = xs.take k := by
  unfold cut
  rw [HT.sIx_none, HT.sIx_nat, List.drop_zero, Nat.sub_zero]
  by_cases h : k ≤ xs.length
  · rw [Nat.min_eq_left h]
  · rw [Nat.min_eq_right (by omega), List.take_of_length_le (Nat.le_refl _), List.take_of_length_le (by omega)]
theorem getL_LN {S : Sto} {p : Nat} {l : List Nat} (h : S[p]? = some (LN l)) : getL S (.ref p) = some (l.map vN) := getL_ref h
theorem cutf_N (l : List Nat) (k : Nat) : Ob.lst (cut (l.map vN) (some (k : Int)) none) = LN (l.drop k) := by rw [cut_from, ← List.map_drop]; rfl
theorem cutt_N (l : List Nat) (k : Nat) : Ob.lst (cut (l.map vN) none (some (k : Int))) = LN (l.take k) := by rw [cut_to, ← List.map_take]; rfl
/-- the def's while, its test -/
noncomputable abbrev rfC : IT := (IL.iOr (iB (iOp fNe (iOp fIx (iVar 1) (iVar 5)) (iLst iNil))) (iB (iOp fNe (iVar 4) (iLst iNil))))
noncomputable abbrev rfB : IS := (sSeq (sAsg (iBM mPop (iOp fIx (iVar 1) (iVar 5)) iNil) (tgName 7))
  (sSeq (sExpr (iBM mAppend (iVar 4) (iCons (iVar 7) iNil)))
  (sSeq (sAsg (iOp fIx (iVar 2) (iVar 7)) (tgName 5))
  (sIf (iB (iOp (fIn false) (iVar 5) (iVar 6))) (sSeq (sAsg (iBM mIndex (iVar 6) (iCons (iVar 5) iNil)) (tgName 8))
  (sSeq (sExpr (iBM mAppend (iVar 3) (iCons (iSl (iVar 4) (iPart (iVar 8)) iNoPart) iNil)))
  (sSeq (sAsg (iSl (iVar 4) iNoPart (iPart (iVar 8))) (tgName 4))
  (sAsg (iSl (iVar 6) iNoPart (iPart (iOp fAdd (iVar 8) (iC (.int 1))))) (tgName 6))))) (sExpr (iBM mAppend (iVar 6) (iCons (iVar 5) iNil)))))))
section
variable {S0 : Sto} {n gb gp aa p : Nat} {an : List Nat} {m : Nat}
theorem rf_test {w : MR.W} {wa ma : Nat} {fr : List Nat} {S : Sto} {x7 x8 : Option Va} (h : RF S0 n gb w wa ma fr S) (hg : S0[gp]? = some (.lst ((List.range n).map fun i => .ref (gb + i)))) (hgp : gb + n ≤ gp) (hw : w.here < n) (hl : w.g.length = n) :
    ∃ T, rfC [some (vN p), some (.ref gp), some (.ref aa), some (.ref S0.length), some (.ref wa), some (vN w.here), some (.ref ma), x7, x8] S = .ok (decide (w.g.getD w.here [] ≠ [] ∨ w.way ≠ [])) (S ++ T) := by
  have gg : S[gp]? = some (.lst ((List.range n).map fun i => .ref (gb + i))) := by rw [h.keep gp (glt hg) (.inr hgp)]; exact hg
  have gh : S[gb + w.here]? = some (LN (w.g.getD w.here [])) := h.giv _ _ (getD_of_lt (by omega))
  have c1 : fIx (.ref gp) (vN w.here) S = .ok (.ref (gb + w.here)) S := fIx_lst gg (by simp [hw])
  have c2 := fNe_nil (get_app (T := [.lst []]) gh) (get_n0 (T := []))
  have c3 := fNe_nil (get_app (T := [.lst [], .lst []]) h.wy) (get_n1 (S := S) (T := []) (a := .lst []))
  generalize w.g.getD w.here [] = G at *
  by_cases e : G = []
  · refine ⟨[.lst [], .lst []], ?_⟩
    rw [e] at c2
    simp [c1, c2, e, c3]
  · refine ⟨[.lst []], ?_⟩
    simp [c1, c2, e]
theorem wstep_pos {a : Nat → Nat} {w : MR.W} {l : List Nat} {x : Nat} (hG : w.g.getD w.here [] = l ++ [x]) (h : a x ∈ w.met) : wstep a w = ⟨w.found ++ [(w.way ++ [x]).drop (w.met.idxOf (a x))], (w.way ++ [x]).take (w.met.idxOf (a x)), a x, w.met.take (w.met.idxOf (a x) + 1), w.g.set w.here l⟩ := by
  have e1 : (l ++ [x]).getLastD 0 = x := by simp
  have e2 : (l ++ [x]).dropLast = l := by simp
  unfold wstep
  rw [hG, e1, e2, if_pos h]
theorem wstep_neg {a : Nat → Nat} {w : MR.W} {l : List Nat} {x : Nat} (hG : w.g.getD w.here [] = l ++ [x]) (h : a x ∉ w.met) : wstep a w = ⟨w.found, w.way ++ [x], a x, w.met ++ [a x], w.g.set w.here l⟩ := by
  have e1 : (l ++ [x]).getLastD 0 = x := by simp
  have e2 : (l ++ [x]).dropLast = l := by simp
  unfold wstep
  rw [hG, e1, e2, if_neg h]
theorem LN_lst (l : List Nat) : LN l = .lst (l.map vN) := rfl
theorem rf_step {w : MR.W} {wa ma : Nat} {fr : List Nat} {S : Sto} {x7 x8 : Option Va} (h : RF S0 n gb w wa ma fr S) (hg : S0[gp]? = some (.lst ((List.range n).map fun i => .ref (gb + i)))) (hgp : gb + n ≤ gp) (hw : w.here < n) (hl : w.g.length = n)
    (ha : S0[aa]? = some (LN an)) (hab : aa < gb ∨ gb + n ≤ aa) (hne : w.g.getD w.here [] ≠ []) (hx : ∀ x ∈ w.g.getD w.here [], an[x]? = some (an.getD x 0)) (lw : w.way.length < 1000) (lm : w.met.length < 1000) (lf : fr.length < 1000) :
    ∃ wa' ma' fr' x7' x8' S', rfB [some (vN p), some (.ref gp), some (.ref aa), some (.ref S0.length), some (.ref wa), some (vN w.here), some (.ref ma), x7, x8] S =
      .nx [some (vN p), some (.ref gp), some (.ref aa), some (.ref S0.length), some (.ref wa'), some (vN (wstep (fun t => an.getD t 0) w).here), some (.ref ma'), x7', x8'] S' ∧ RF S0 n gb (wstep (fun t => an.getD t 0) w) wa' ma' fr' S' := by
  have hN := glt hg
  have gg : S[gp]? = some (.lst ((List.range n).map fun i => .ref (gb + i))) := by rw [h.keep gp (glt hg) (.inr hgp)]; exact hg
  have gh : S[gb + w.here]? = some (LN (w.g.getD w.here [])) := h.giv _ _ (getD_of_lt (by omega))
  have c1 : fIx (.ref gp) (vN w.here) S = .ok (.ref (gb + w.here)) S := fIx_lst gg (by simp [hw])
  have hsn := eq_snoc hne
  have hxm := hx ((w.g.getD w.here []).getLastD 0) (by rw [hsn]; simp)
  obtain ⟨x, hX⟩ : ∃ x, x = (w.g.getD w.here []).getLastD 0 := ⟨_, rfl⟩
  obtain ⟨l, hL⟩ : ∃ l, l = (w.g.getD w.here []).dropLast := ⟨_, rfl⟩
  rw [← hX, ← hL] at hsn
  rw [← hX] at hxm
  rw [hsn] at gh
  have cp := mPop_LN gh
  have g1 : (S.set (gb + w.here) (LN l))[wa]? = some (LN w.way) := by rw [gs (by have := h.wal; omega)]; exact h.wy
  have ca := mAppend_LN (x := x) g1 (by omega)
  have aA : ((S.set (gb + w.here) (LN l)).set wa (LN (w.way ++ [x])))[aa]? = some (LN an) := by
    have := glt ha; have := h.wal
    rw [gs (by omega), gs (by omega), h.keep aa (by omega) hab]; exact ha
  have ci : fIx (.ref aa) (vN x) ((S.set (gb + w.here) (LN l)).set wa (LN (w.way ++ [x]))) = .ok (vN (an.getD x 0)) ((S.set (gb + w.here) (LN l)).set wa (LN (w.way ++ [x]))) := fIx_lst aA (vN_get hxm)
  obtain ⟨q, hq⟩ : ∃ q, q = an.getD x 0 := ⟨_, rfl⟩
  rw [← hq] at hxm ci
  have gm : ((S.set (gb + w.here) (LN l)).set wa (LN (w.way ++ [x])))[ma]? = some (LN w.met) := by
    have := h.mal
    rw [gs h.wm, gs (by omega)]; exact h.mt
  have cn := fIn_LN (x := q) gm
  have lst1 : getL S (.ref (gb + w.here)) = some ((l ++ [x]).map vN) := getL_ref gh
  have lst2 : getL (S.set (gb + w.here) (LN l)) (.ref wa) = some (w.way.map vN) := getL_ref g1
  have lst3 := getL_LN gm
  have f0 : ((S.set (gb + w.here) (LN l)).set wa (LN (w.way ++ [x])))[S0.length]? = some (.lst (fr.map .ref)) := by
    have := h.wal
    rw [gs (by omega), gs (by omega)]; exact h.fnd
  have w0 : ((S.set (gb + w.here) (LN l)).set wa (LN (w.way ++ [x])))[wa]? = some (LN (w.way ++ [x])) := gself g1
  -- what stays
  have base : ∀ a, a ≠ gb + w.here → a ≠ wa → ((S.set (gb + w.here) (LN l)).set wa (LN (w.way ++ [x])))[a]? = S[a]? := fun a h1 h2 => by rw [gs (Ne.symm h2), gs (Ne.symm h1)]
  have giv' : ∀ i l', (w.g.set w.here l)[i]? = some l' → ((S.set (gb + w.here) (LN l)).set wa (LN (w.way ++ [x])))[gb + i]? = some (LN l') := fun i l' e => by
    have hi : i < n := by
      have := (List.getElem?_eq_some_iff.mp e).1
      rwa [List.length_set, hl] at this
    have := h.wal
    rw [gs (by omega)]
    by_cases hi2 : w.here = i
    · subst hi2
      rw [List.getElem?_set_self (by omega)] at e
      cases e
      exact gself gh
    · rw [List.getElem?_set_ne hi2] at e
      rw [gs (by omega)]
      exact h.giv i l' e
  generalize hS2 : (S.set (gb + w.here) (LN l)).set wa (LN (w.way ++ [x])) = S2 at *
  have hlen : S2.length = S.length := by rw [← hS2]; simp
  have hwa := glt h.wy
  have hma := glt h.mt
  by_cases hin : q ∈ w.met
  · rw [decide_eq_true hin] at cn
    have cx := mIndex_LN gm hin
    generalize hf : w.met.idxOf q = f at *
    have cap : mAppend (.ref S0.length) [.ref S2.length] (S2 ++ [LN ((w.way ++ [x]).drop f)]) = .ok .non ((S2 ++ [LN ((w.way ++ [x]).drop f)]).set S0.length (.lst ((fr ++ [S2.length]).map .ref))) := by
      simp only [mAppend, get_app (T := [LN ((w.way ++ [x]).drop f)]) f0]
      rw [if_pos (by simp; omega)]
      simp
    have f0l := glt f0
    have eS : (S2 ++ [LN ((w.way ++ [x]).drop f)]).set S0.length (.lst ((fr ++ [S2.length]).map .ref)) = S2.set S0.length (.lst ((fr ++ [S2.length]).map .ref)) ++ [LN ((w.way ++ [x]).drop f)] := by rw [List.set_append_left _ _ f0l]
    rw [eS] at cap
    generalize hS3 : S2.set S0.length (.lst ((fr ++ [S2.length]).map .ref)) = S3 at *
    have hlen3 : S3.length = S.length := by rw [← hS3]; simp [hlen]
    rw [hlen] at cap
    have b3 : ∀ a, a ≠ S0.length → S3[a]? = S2[a]? := fun a h1 => by rw [← hS3]; exact gs (Ne.symm h1)
    have w3 : S3[wa]? = some (LN (w.way ++ [x])) := by rw [b3 wa (by have := h.wal; omega)]; exact w0
    have m3 : S3[ma]? = some (LN w.met) := by rw [b3 ma (by have := h.mal; omega)]; exact gm
    rw [wstep_pos (a := fun t => an.getD t 0) hsn (by rw [← hq]; exact hin)]
    simp only [← hq, hf]
    refine ⟨S.length + 1, S.length + 2, fr ++ [S.length], some (vN x), some (vN f), S3 ++ [LN ((w.way ++ [x]).drop f), LN ((w.way ++ [x]).take f), LN (w.met.take (f + 1))], ?_, ?_⟩
    · skip
      have c5 : getL (S3 ++ [LN ((w.way ++ [x]).drop f)]) (.ref wa) = some ((w.way ++ [x]).map vN) := getL_ref (get_app w3)
      have c6 : getL (S3 ++ [LN ((w.way ++ [x]).drop f), LN ((w.way ++ [x]).take f)]) (.ref ma) = some (w.met.map vN) := getL_ref (get_app m3)
      have c7 : getL S2 (.ref wa) = some ((w.way ++ [x]).map vN) := getL_ref w0
      have c8 : getL S2 (.ref S0.length) = some (fr.map .ref) := getL_ref f0
      have e9 : ((f : Int) + 1) = ((f + 1 : Nat) : Int) := by omega
      have vf : vN f = Va.int (f : Int) := rfl
      simp only [x_seq, x_asg, x_bm, x_op, x_var, List.getElem?_cons_succ, List.getElem?_cons_zero, R.bind_ok, c1, lst1, x_nil, cp, R.toO_ok, x_tgName, List.set, O.seq_nx, x_expr, lst2, x_cons, ca, hS2, ci, x_sif, x_B, cn, x_asB, if_true, lst3, cx, c8, x_sl, x_part, vf, x_noPart, c7, cutf_N, cap, c5, cutt_N, x_c, x_add, e9, List.append_assoc, List.cons_append, List.nil_append, c6, hlen3, hlen, List.length_append, List.length_cons, List.length_nil]
    · have r3 : ∀ r l', S0.length < r → r ≠ wa → r ≠ ma → S[r]? = some (LN l') → S3[r]? = some (LN l') := fun r l' h1 h2 h3 h4 => by
        rw [b3 r (by omega), base r (by omega) h2]; exact h4
      refine ⟨fun a h1 h2 => ?_, fun i l' e => ?_, ?_, ?_, ?_, by have := h.wal; omega, by have := h.wal; omega, by omega, ?_, ?_⟩
      · have := h.wal
        rw [gapp (by omega), b3 a (by omega), base a (by omega) (by omega)]; exact h.keep a h1 h2
      · have hi : i < n := by
          have := (List.getElem?_eq_some_iff.mp e).1
          simp only [List.length_set, hl] at this; exact this
        refine get_app ?_
        rw [b3 _ (by omega)]; exact giv' i l' e
      · refine get_app ?_
        rw [← hS3, hlen]
        exact gself f0
      · rw [← hlen3]; exact get_n1
      · rw [← hlen3]; exact get_n2
      · rw [List.nodup_append]
        refine ⟨h.nd, by simp, fun a ha b hb => ?_⟩
        rw [List.mem_singleton] at hb
        obtain ⟨r, _, _, _, _, h4⟩ := Paired.mem h.rg ha
        have := glt h4
        omega
      · refine Paired.append ?_ (.cons ⟨by have := h.wal; omega, by omega, by omega, ?_⟩ .nil)
        · refine Paired.imp (fun r l' ⟨h1, h2, h3, h4⟩ => ⟨h1, ?_, ?_, get_app (r3 r l' h1 h2 h3 h4)⟩) h.rg
          · have := glt h4; omega
          · have := glt h4; omega
        · rw [← hlen3]; exact get_n0
  · rw [decide_eq_false hin] at cn
    have cap := mAppend_LN (x := q) gm (by omega)
    rw [wstep_neg (a := fun t => an.getD t 0) hsn (by rw [← hq]; exact hin)]
    simp only [← hq]
    refine ⟨wa, ma, fr, some (vN x), x8, S2.set ma (LN (w.met ++ [q])), ?_, ?_⟩
    · simp only [x_seq, x_asg, x_bm, x_op, x_var, List.getElem?_cons_succ, List.getElem?_cons_zero, R.bind_ok, c1, lst1, x_nil, cp, R.toO_ok, x_tgName, List.set, O.seq_nx, x_expr, lst2, x_cons, ca, hS2, ci, x_sif, x_B, cn, x_asB, Bool.false_eq_true, if_false, lst3, cap]
    · have b4 : ∀ a, a ≠ ma → (S2.set ma (LN (w.met ++ [q])))[a]? = S2[a]? := fun a h1 => gs (Ne.symm h1)
      refine ⟨fun a h1 h2 => ?_, fun i l' e => ?_, ?_, ?_, ?_, h.wal, h.mal, h.wm, h.nd, ?_⟩
      · have := h.wal; have := h.mal
        rw [b4 a (by omega), base a (by omega) (by omega)]; exact h.keep a h1 h2
      · have hi : i < n := by
          have := (List.getElem?_eq_some_iff.mp e).1
          simp only [List.length_set, hl] at this; exact this
        have := h.mal
        rw [b4 _ (by omega)]; exact giv' i l' e
      · have := h.mal
        rw [b4 _ (by omega)]; exact f0
      · rw [b4 _ h.wm]; exact w0
      · exact gself gm
      · refine Paired.imp (fun r l' ⟨h1, h2, h3, h4⟩ => ⟨h1, h2, h3, ?_⟩) h.rg
        rw [b4 _ h3, base r (by omega) h2]; exact h4
theorem len_le_flat {s a : Nat → Nat} : ∀ {f : List (List Nat)}, (∀ r ∈ f, ringOk s a r) → f.length ≤ f.flatten.length
  | [], _ => Nat.le_refl _
  | r :: f, h => by
    have h1 := len_le_flat (f := f) fun r' h' => h r' (List.mem_cons_of_mem _ h')
    have h2 := (h r List.mem_cons_self).1
    have h3 : 0 < r.length := List.length_pos_iff.mpr h2
    rw [List.flatten_cons, List.length_cons, List.length_append]; omega
theorem wi_sizes {n : Nat} {s a : Nat → Nat} {p : Nat} {g0 : List (List Nat)} {w : MR.W} (i : Wi n s a p g0 w) (h : g0.flatten.length ≤ 900) : w.way.length < 1000 ∧ w.met.length < 1000 ∧ w.found.length < 1000 := by
  have := i.pm.length_eq
  simp only [List.length_append] at this
  have h2 := len_le_flat i.fd
  have := i.len
  omega
theorem rings_from_ok {s : Nat → Nat} {g : List (List Nat)} (hg : S0[gp]? = some (.lst ((List.range n).map fun i => .ref (gb + i)))) (hgp : gb + n ≤ gp) (ha : S0[aa]? = some (LN an)) (hab : aa < gb ∨ gb + n ≤ aa) (hp : p < n)
    (wf : WfG n s (fun t => an.getD t 0) g) (bal : Bal s (fun t => an.getD t 0) g) (hs : g.flatten.length ≤ 900) (hlt : ∀ t ∈ g.flatten, t < an.length) (gv : ∀ i l, g[i]? = some l → S0[gb + i]? = some (LN l)) :
    ∃ fr S', i_rings_from [vN p, .ref gp, .ref aa] S0 = .ok (.ref S0.length) S' ∧ S'[S0.length]? = some (.lst (fr.map .ref)) ∧ (∀ a, a < S0.length → (a < gb ∨ gb + n ≤ a) → S'[a]? = S0[a]?) ∧ (∀ i l, (rfF (fun t => an.getD t 0) p g).2[i]? = some l → S'[gb + i]? = some (LN l)) ∧ fr.Nodup ∧
      Paired (fun r l => S0.length < r ∧ S'[r]? = some (LN l)) fr (rfF (fun t => an.getD t 0) p g).1 := by
  obtain ⟨a, hA⟩ : ∃ a : Nat → Nat, a = fun t => an.getD t 0 := ⟨_, rfl⟩
  rw [← hA] at wf bal ⊢
  have hg' := glt hg
  have key : ∃ ρ' S' wa ma fr x7 x8, sWhile rfC rfB [some (vN p), some (.ref gp), some (.ref aa), some (.ref S0.length), some (.ref (S0.length + 1)), some (vN p), some (.ref (S0.length + 2)), none, none] (S0 ++ [.lst [], .lst [], .lst [vN p]]) = .nx ρ' S' ∧
      ρ' = [some (vN p), some (.ref gp), some (.ref aa), some (.ref S0.length), some (.ref wa), some (vN (wgo a g.flatten.length ⟨[], [], p, [p], g⟩).here), some (.ref ma), x7, x8] ∧ RF S0 n gb (wgo a g.flatten.length ⟨[], [], p, [p], g⟩) wa ma fr S' := by
    refine while_rule (G := fun o => ∃ ρ' S' wa ma fr x7 x8, o = .nx ρ' S' ∧ ρ' = [some (vN p), some (.ref gp), some (.ref aa), some (.ref S0.length), some (.ref wa), some (vN (wgo a g.flatten.length ⟨[], [], p, [p], g⟩).here), some (.ref ma), x7, x8] ∧ RF S0 n gb (wgo a g.flatten.length ⟨[], [], p, [p], g⟩) wa ma fr S')
      (by rintro ⟨_, _, _, _, _, _, _, z, _⟩; cases z)
      (fun m ρ S => ∃ w wa ma fr x7 x8, Wi n s a p g w ∧ w.g.flatten.length = m ∧ wgo a m w = wgo a g.flatten.length ⟨[], [], p, [p], g⟩ ∧ ρ = [some (vN p), some (.ref gp), some (.ref aa), some (.ref S0.length), some (.ref wa), some (vN w.here), some (.ref ma), x7, x8] ∧ RF S0 n gb w wa ma fr S) ?_ (m := g.flatten.length) ?_
    · rintro m ρ S ⟨w, wa, ma, fr, x7, x8, wi, hm, hw, rfl, rf⟩
      have hn : w.here < n := wi.lt _ (List.mem_of_getElem? wi.lst)
      obtain ⟨T, hT⟩ := rf_test (p := p) (aa := aa) (x7 := x7) (x8 := x8) rf hg hgp hn wi.wf.1
      refine ⟨_, _, hT, fun hb => ?_, fun hb => ?_⟩
      · have hc : ¬ (w.g.getD w.here [] ≠ [] ∨ w.way ≠ []) := of_decide_eq_false hb
        have e : wgo a m w = w := by
          cases m with
          | zero => rfl
          | succ m => unfold wgo; rw [if_neg hc]
        rw [e] at hw
        subst hw
        exact ⟨_, _, wa, ma, fr, x7, x8, rfl, rfl, rf.app⟩
      · have hc : w.g.getD w.here [] ≠ [] ∨ w.way ≠ [] := of_decide_eq_true hb
        have hne := wi.ne hc
        obtain ⟨z1, z2, z3⟩ := wi_sizes wi hs
        have hl := Paired.len rf.rg
        obtain ⟨wi2, hlen⟩ := wi.step hne
        have hsub : ∀ x ∈ w.g.getD w.here [], x < an.length := fun x hx => by
          refine hlt x (wi.pm.subset ?_)
          rw [List.mem_append]
          right
          rw [List.mem_flatten]
          exact ⟨_, List.mem_of_getElem? (getD_of_lt (by rw [wi.wf.1]; exact hn)), hx⟩
        obtain ⟨wa', ma', fr', x7', x8', S2, h1, h2⟩ := rf_step (p := p) (x7 := x7) (x8 := x8) (rf.app (T := T)) hg hgp hn wi.wf.1 ha hab hne (fun x hx => by have := hsub x hx; simp [List.getD, this]) z1 z2 (by omega)
        rw [h1]
        rw [← hA] at h2 ⊢
        refine ⟨m - 1, by omega, wstep a w, wa', ma', fr', x7', x8', wi2, by omega, ?_, rfl, h2⟩
        cases m with
        | zero => omega
        | succ m =>
          rw [← hw]
          conv => rhs; unfold wgo
          rw [if_pos hc]
          rfl
    · refine ⟨⟨[], [], p, [p], g⟩, S0.length + 1, S0.length + 2, [], none, none, Wi.init wf hp bal, rfl, rfl, rfl, ⟨fun a h1 h2 => gapp h1, fun i l e => get_app (gv i l e), get_n0, get_n1, get_n2, by omega, by omega, by omega, by simp, .nil⟩⟩
  obtain ⟨ρ', S', wa, ma, fr, x7, x8, h1, h2, rf⟩ := key
  refine ⟨fr, S', ?_, rf.fnd, rf.keep, rf.giv, rf.nd, Paired.imp (fun r l ⟨h1, _, _, h4⟩ => ⟨h1, h4⟩) rf.rg⟩
  simp only [i_rings_from, mk3, List.replicate]
  simp [rfC, rfB, h2] at h1 ⊢
  simp [h1]
end
end IL

end
section
set_option linter.all false
set_option maxRecDepth 100000
set_option maxHeartbeats 1000000
namespace IL
open PySem L2 MR
theorem prefix_of {S S' : Sto} (h : ∀ a, a < S.length → S'[a]? = S[a]?) : ∃ T, S' = S ++ T := by
  refine ⟨S'.drop S.length, ?_⟩
  apply List.ext_getElem?
  intro i
  by_cases hi : i < S.length
  · rw [gapp hi]; exact h i hi
  · rw [List.getElem?_append_right (by omega), List.getElem?_drop]
    congr 1; omega
theorem lc_new {tg : IG} {ρ : Env} (ht : ∀ v S, ∃ ρ1, tg (.one v) ρ S = .ok ρ1 S) : ∀ (vs : List Va) (S : Sto), lcL (fun _ => true) tg iYes (iLst iNil) ρ (vs.map .one) S = .ok ((List.range vs.length).map fun i => .ref (S.length + i)) (S ++ List.replicate vs.length (.lst []))
  | [], S => by simp [lcL]
  | v :: vs, S => by
    obtain ⟨ρ1, h1⟩ := ht v S
    have ih := lc_new ht vs (S ++ [.lst []])
    simp only [List.map_cons, lcL, if_true, h1, R.bindN_ok, x_yes, x_lst, x_nil, R.bind_ok, ih]
    have e1 : (Va.ref S.length :: (List.range vs.length).map fun i => Va.ref ((S ++ [Ob.lst []]).length + i)) = (List.range (v :: vs).length).map fun i => Va.ref (S.length + i) := by
      rw [List.length_cons, List.range_succ_eq_map, List.map_cons, List.map_map]
      congr 1
      apply List.map_congr_left
      intro i _
      show Va.ref _ = Va.ref _
      congr 1
      simp; omega
    have e2 : S ++ [Ob.lst []] ++ List.replicate vs.length (Ob.lst []) = S ++ List.replicate (v :: vs).length (Ob.lst []) := by
      rw [List.length_cons, List.replicate_succ, List.append_assoc]; rfl
    rw [e1, e2]
theorem enuI_get0 {xs : List Va} {i : Nat} {it : It1} (h : (enuI 0 xs)[i]? = some it) : ∃ x, xs[i]? = some x ∧ it = .tup [vN i, x] := by
  obtain ⟨x, h1, h2⟩ := enuI_get 0 xs i it h
  exact ⟨x, h1, by rw [h2, Nat.zero_add]; rfl⟩
theorem giv_succ {n k : Nat} {s a : Nat → Nat} (hs : s k < n) : giv n (k + 1) s a = if a k ≠ s k then (giv n k s a).set (s k) ((giv n k s a).getD (s k) [] ++ [k]) else giv n k s a := by
  have hg : ∀ p, p < n → ∀ m, (giv n m s a)[p]? = some ((List.range m).filter fun t => decide (s t = p ∧ a t ≠ p)) := fun p hp m => giv_get hp
  have gd : (giv n k s a).getD (s k) [] = (List.range k).filter fun t => decide (s t = s k ∧ a t ≠ s k) := getD_some (hg _ hs k)
  have fs : ∀ p, ((List.range (k + 1)).filter fun t => decide (s t = p ∧ a t ≠ p)) = ((List.range k).filter fun t => decide (s t = p ∧ a t ≠ p)) ++ (if s k = p ∧ a k ≠ p then [k] else []) := fun p => by
    rw [List.range_succ, List.filter_append]
    congr 1
    by_cases h : s k = p ∧ a k ≠ p
    · rw [if_pos h]; simp [h]
    · rw [if_neg h]; simp [h]
  apply List.ext_getElem?
  intro p
  by_cases hp : p < n
  · rw [hg p hp, fs]
    by_cases ha : a k ≠ s k
    · rw [if_pos ha]
      by_cases e : s k = p
      · subst e
        rw [List.getElem?_set_self (by rw [giv_len]; exact hs), gd, if_pos ⟨rfl, ha⟩]
      · rw [List.getElem?_set_ne e, hg p hp, if_neg (fun z => e z.1), List.append_nil]
    · rw [if_neg ha, hg p hp]
      have ha' : a k = s k := Classical.not_not.mp ha
      rw [if_neg (fun z => z.2 (by rw [ha', z.1])), List.append_nil]
  · rw [List.getElem?_eq_none (by rw [giv_len]; omega)]
    split
    · rw [List.getElem?_eq_none (by rw [List.length_set, giv_len]; omega)]
    · rw [List.getElem?_eq_none (by rw [giv_len]; omega)]
theorem giv_zero {n : Nat} {s a : Nat → Nat} : giv n 0 s a = List.replicate n [] := by unfold giv; rw [List.eq_replicate_iff]; simp
theorem fNe_N {S : Sto} {x y : Nat} : fNe (vN x) (vN y) S = .ok (.bl (!decide (x = y))) S := by
  simp only [fNe, vN, toP, PyData.eqv]
  congr 2
  by_cases h : x = y
  · subst h; simp
  · rw [decide_eq_false h]; simp; omega
theorem fNe_LN {S : Sto} {p q : Nat} {xs ys : List Nat} (h : S[p]? = some (LN xs)) (hq : S[q]? = some (LN ys)) : fNe (.ref p) (.ref q) S = .ok (.bl (!decide (xs = ys))) S := by
  unfold LN at h hq
  simp only [fNe, toP, h, hq, toP_N, PyData.eqv, eqv_N]
theorem get_mid {B M T : Sto} {i : Nat} {o : Ob} (h : M[i]? = some o) : (B ++ (M ++ T))[B.length + i]? = some o := by
  rw [List.getElem?_append_right (by omega), show B.length + i - B.length = i by omega]
  exact get_app h
theorem set_mid {B M T : Sto} {i : Nat} {o : Ob} (h : i < M.length) : (B ++ (M ++ T)).set (B.length + i) o = B ++ (M.set i o ++ T) := by
  rw [List.set_append_right _ _ (by omega), show B.length + i - B.length = i by omega, List.set_append_left _ _ h]
theorem get_end {B M T : Sto} {k : Nat} {o : Ob} (h : M.length = k) : (B ++ (M ++ o :: T))[B.length + k]? = some o := by
  subst h
  rw [← List.append_assoc, ← List.length_append]; exact get_n0
/-- giving, filled -/
theorem giving_ok {B : Sto} {n q r : Nat} {sh an : List Nat} {x0 x1 x7 x8 : Option Va} (hq : B[q]? = some (LN sh)) (hr : B[r]? = some (LN an)) (hl : an.length = sh.length) (hs : ∀ x ∈ sh, x < n) (hz : sh.length ≤ 1000) (L : Ob) (hL : L = .lst ((List.range n).map fun i => .ref (B.length + i))) :
    ∃ x5 x6, forL (sameAt (B ++ (List.replicate n (.lst []) ++ [L])) (.ref q)) (tgTupN 2 [tgName 5, tgName 6]) (sIf (iB (iOp fNe (iOp fIx (iVar 3) (iVar 5)) (iVar 6))) (sExpr (iBM mAppend (iOp fIx (iVar 4) (iVar 6)) (iCons (iVar 5) iNil))) sNext) (enuI 0 (sh.map vN))
      [x0, x1, some (.ref q), some (.ref r), some (.ref (B.length + n)), none, none, x7, x8] (B ++ (List.replicate n (.lst []) ++ [L])) =
    .nx [x0, x1, some (.ref q), some (.ref r), some (.ref (B.length + n)), x5, x6, x7, x8] (B ++ ((giv n sh.length (fun t => sh.getD t 0) (fun t => an.getD t 0)).map LN ++ [L])) := by
  obtain ⟨ρ', S', h1, x5, x6, h2, h3⟩ := for_nx (chk := sameAt (B ++ (List.replicate n (.lst []) ++ [L])) (.ref q)) (tg := tgTupN 2 [tgName 5, tgName 6]) (body := sIf (iB (iOp fNe (iOp fIx (iVar 3) (iVar 5)) (iVar 6))) (sExpr (iBM mAppend (iOp fIx (iVar 4) (iVar 6)) (iCons (iVar 5) iNil))) sNext)
    (fun k ρ S' => ∃ x5 x6, ρ = [x0, x1, some (.ref q), some (.ref r), some (.ref (B.length + n)), x5, x6, x7, x8] ∧ S' = B ++ ((giv n k (fun t => sh.getD t 0) (fun t => an.getD t 0)).map LN ++ [L])) (enuI 0 (sh.map vN))
    [x0, x1, some (.ref q), some (.ref r), some (.ref (B.length + n)), none, none, x7, x8] (B ++ (List.replicate n (.lst []) ++ [L]))
    ⟨none, none, rfl, by rw [giv_zero, List.map_replicate]; rfl⟩ (fun j it ρ S' hj ⟨x5, x6, e1, e2⟩ => by
      subst e1 e2
      obtain ⟨v, z1, rfl⟩ := enuI_get0 hj
      obtain ⟨x, z2, rfl⟩ := map_get z1
      have hxn : x < n := hs x (List.mem_of_getElem? z2)
      have hjl : j < sh.length := (List.getElem?_eq_some_iff.mp z2).1
      have hy : an[j]? = some (an.getD j 0) := by simp [List.getD, show j < an.length by omega]
      have hsj : sh.getD j 0 = x := by simp [List.getD, z2]
      refine ⟨sameAt_app2 hq, [x0, x1, some (.ref q), some (.ref r), some (.ref (B.length + n)), some (vN j), some (vN x), x7, x8], _, rfl, ?_⟩
      have gs' := giv_succ (n := n) (k := j) (s := fun t => sh.getD t 0) (a := fun t => an.getD t 0) (by rw [hsj]; exact hxn)
      simp only [hsj] at gs'
      generalize hG : giv n j (fun t => sh.getD t 0) (fun t => an.getD t 0) = G at *
      have hGl : G.length = n := by rw [← hG]; exact giv_len
      have c1 : fIx (.ref r) (vN j) (B ++ (G.map LN ++ [L])) = .ok (vN (an.getD j 0)) (B ++ (G.map LN ++ [L])) := fIx_lst (get_app hr) (vN_get hy)
      generalize an.getD j 0 = y at *
      by_cases e : y = x
      · rw [if_neg (by simp [e])] at gs'
        refine ⟨_, _, ?_, some (vN j), some (vN x), rfl, by rw [gs']⟩
        simp [c1, fNe_N, e]
      · rw [if_pos e] at gs'
        have gx : G[x]? = some (G.getD x []) := getD_of_lt (by omega)
        have c2 : fIx (.ref (B.length + n)) (vN x) (B ++ (G.map LN ++ [L])) = .ok (.ref (B.length + x)) (B ++ (G.map LN ++ [L])) := by
          refine fIx_lst (xs := (List.range n).map fun i => .ref (B.length + i)) ?_ (by simp [hxn])
          rw [← hL]
          exact get_end (by rw [List.length_map, hGl])
        have m1 : (B ++ (G.map LN ++ [L]))[B.length + x]? = some (LN (G.getD x [])) := get_mid (by rw [List.getElem?_map, gx]; rfl)
        have hlx : (G.getD x []).length ≤ j := by
          have : G.getD x [] = (List.range j).filter fun t => decide (sh.getD t 0 = x ∧ an.getD t 0 ≠ x) := by rw [← hG]; exact getD_some (giv_get hxn)
          rw [this]
          exact Nat.le_trans (List.length_filter_le _ _) (by simp)
        have c3 := mAppend_LN (x := j) m1 (by omega)
        rw [set_mid (by rw [List.length_map]; omega)] at c3
        refine ⟨_, B ++ ((G.map LN).set x (LN (G.getD x [] ++ [j])) ++ [L]), ?_, some (vN j), some (vN x), rfl, by rw [gs', List.map_set]⟩
        have l1 := getL_LN m1
        simp [c1, fNe_N, e, c2, l1, c3]) (fun ρ S' ⟨x5, x6, e1, e2⟩ => by subst e2; exact sameAt_app2 hq)
  rw [enuI_length, List.length_map] at h3
  subst h2 h3
  exact ⟨x5, x6, h1⟩
/-- what stands while the rings are told; N0: found's place -/
structure RG (S1 : Sto) (n gb : Nat) (fr : List Nat) (x : List (List Nat) × List (List Nat)) (S : Sto) : Prop where
  keep : ∀ a, a < S1.length → (a < gb ∨ gb + n ≤ a) → S[a]? = S1[a]?
  giv : ∀ i l, x.2[i]? = some l → S[gb + i]? = some (LN l)
  fnd : S[S1.length]? = some (.lst (fr.map .ref))
  nd : fr.Nodup
  rg : Paired (fun r l => S1.length < r ∧ S[r]? = some (LN l)) fr x.1
theorem RG.app {S1 : Sto} {n gb : Nat} {fr : List Nat} {x : List (List Nat) × List (List Nat)} {S T : Sto} (h : RG S1 n gb fr x S) : RG S1 n gb fr x (S ++ T) :=
  ⟨fun a h1 h2 => by rw [gapp (by have := glt h.fnd; omega)]; exact h.keep a h1 h2, fun i l e => get_app (h.giv i l e), get_app h.fnd, h.nd, Paired.imp (fun r l ⟨a, b⟩ => ⟨a, get_app b⟩) h.rg⟩
theorem rgo_snoc {a : Nat → Nat} : ∀ (ps : List Nat) (p : Nat) (x : List (List Nat) × List (List Nat)), rgo a (ps ++ [p]) x = rgo a [p] (rgo a ps x)
  | [], _, _ => rfl
  | q :: ps, p, (f, g) => by
    show (if g.getD q [] ≠ [] then rgo a (ps ++ [p]) (f ++ (rfF a q g).1, (rfF a q g).2) else rgo a (ps ++ [p]) (f, g)) = rgo a [p] (if g.getD q [] ≠ [] then rgo a ps (f ++ (rfF a q g).1, (rfF a q g).2) else rgo a ps (f, g))
    split
    · exact rgo_snoc ps p _
    · exact rgo_snoc ps p _
noncomputable abbrev rgB : IS := (sWhile (iB (iOp fNe (iOp fIx (iVar 4) (iVar 8)) (iLst iNil))) (sExpr (iBM mExtend (iVar 7) (iCons (iCall i_rings_from (iCons (iVar 8) (iCons (iVar 4) (iCons (iVar 3) iNil)))) iNil))))
theorem rg_turn {S1 S : Sto} {n gb gp aa p : Nat} {an : List Nat} {s : Nat → Nat} {g0 : List (List Nat)} {fr : List Nat} {f g : List (List Nat)} {x0 x1 x2 x5 x6 : Option Va} (h : RG S1 n gb fr (f, g) S) (ri : Ri n s (fun t => an.getD t 0) g0 (f, g))
    (hg : S1[gp]? = some (.lst ((List.range n).map fun i => .ref (gb + i)))) (hgp : gb + n ≤ gp) (ha : S1[aa]? = some (LN an)) (hab : aa < gb ∨ gb + n ≤ aa) (hp : p < n) (hz : g0.flatten.length ≤ 900) (hlt : ∀ t ∈ g0.flatten, t < an.length) :
    ∃ fr' S', rgB [x0, x1, x2, some (.ref aa), some (.ref gp), x5, x6, some (.ref S1.length), some (vN p)] S = .nx [x0, x1, x2, some (.ref aa), some (.ref gp), x5, x6, some (.ref S1.length), some (vN p)] S' ∧ RG S1 n gb fr' (rgo (fun t => an.getD t 0) [p] (f, g)) S' := by
  have hg' := glt hg
  refine while_rule (G := fun o => ∃ fr' S', o = .nx [x0, x1, x2, some (.ref aa), some (.ref gp), x5, x6, some (.ref S1.length), some (vN p)] S' ∧ RG S1 n gb fr' (rgo (fun t => an.getD t 0) [p] (f, g)) S') (by rintro ⟨_, _, z, _⟩; cases z)
    (fun m ρ S => ρ = [x0, x1, x2, some (.ref aa), some (.ref gp), x5, x6, some (.ref S1.length), some (vN p)] ∧ ∃ fr' f' g', RG S1 n gb fr' (f', g') S ∧ Ri n s (fun t => an.getD t 0) g0 (f', g') ∧ rgo (fun t => an.getD t 0) [p] (f, g) = rgo (fun t => an.getD t 0) [p] (f', g') ∧ m = (if g'.getD p [] = [] then 0 else 1)) ?_ (m := if g.getD p [] = [] then 0 else 1) ⟨rfl, fr, f, g, h, ri, rfl, rfl⟩
  rintro m ρ S ⟨rfl, fr, f, g, h, ri, hr, rfl⟩
  have hgl : g.length = n := ri.wf.1
  have gg : S[gp]? = some (.lst ((List.range n).map fun i => .ref (gb + i))) := by rw [h.keep gp hg' (.inr hgp)]; exact hg
  have gh : S[gb + p]? = some (LN (g.getD p [])) := h.giv p _ (getD_of_lt (g := g) (by omega))
  have c1 : fIx (.ref gp) (vN p) S = .ok (.ref (gb + p)) S := fIx_lst gg (by simp [hp])
  have c2 := fNe_nil (get_app (T := [.lst []]) gh) (get_n0 (T := []))
  refine ⟨!decide (g.getD p [] = []), S ++ [.lst []], ?_, fun hb => ?_, fun hb => ?_⟩
  · simp only [x_B, x_op, x_var, List.getElem?_cons_succ, List.getElem?_cons_zero, R.bind_ok, c1, x_lst, x_nil, c2, x_asB]
  · have hc : g.getD p [] = [] := by simpa using hb
    refine ⟨fr, S ++ [.lst []], rfl, ?_⟩
    rw [hr]
    show RG S1 n gb fr (if g.getD p [] ≠ [] then _ else _) _
    rw [if_neg (fun z => z hc)]
    exact h.app
  · have hc : g.getD p [] ≠ [] := by simpa using hb
    have h2 := h.app (T := [.lst []])
    have hN := glt h.fnd
    have gg2 : (S ++ [Ob.lst []])[gp]? = some (.lst ((List.range n).map fun i => .ref (gb + i))) := get_app gg
    have aA : (S ++ [Ob.lst []])[aa]? = some (LN an) := by have := glt ha; rw [h2.keep aa this hab]; exact ha
    have hsz : g.flatten.length ≤ g0.flatten.length := by
      have := ri.pm.length_eq
      simp only [List.length_append] at this
      omega
    obtain ⟨fr', S', r1, r2, r3, r4, r5, r6⟩ := rings_from_ok (p := p) gg2 hgp aA hab hp (g := g) ri.wf ri.bal (show g.flatten.length ≤ 900 by omega) (fun t ht => hlt t (ri.pm.subset (List.mem_append_right _ ht))) h2.giv
    generalize hS3 : S ++ [Ob.lst []] = S3 at *
    have hlen3 : S1.length < S3.length := by have := glt h2.fnd; omega
    have hN' : S'[S1.length]? = some (.lst (fr.map .ref)) := by rw [r3 _ hlen3 (.inr (by omega))]; exact h2.fnd
    have z1 := Paired.len r6
    have z2 := Paired.len h.rg
    have z3 := len_le_flat ri.fd
    have ri2 := ri.turn hp
    have z4 := len_le_flat ri2.fd
    have z5 := ri2.pm.length_eq
    dsimp only at z1 z2 z3 z4 z5
    simp only [List.length_append] at z4 z5
    have c4 : mExtend (.ref S1.length) [.ref S3.length] S' = .ok .non (S'.set S1.length (.lst ((fr ++ fr').map .ref))) := by
      simp only [mExtend, hN', r2]
      rw [if_pos (by rw [List.length_map, List.length_map]; omega), List.map_append]
    have gl : getL S3 (.ref S1.length) = some (fr.map .ref) := getL_ref h2.fnd
    have eb : (sExpr (iBM mExtend (iVar 7) (iCons (iCall i_rings_from (iCons (iVar 8) (iCons (iVar 4) (iCons (iVar 3) iNil)))) iNil))) [x0, x1, x2, some (.ref aa), some (.ref gp), x5, x6, some (.ref S1.length), some (vN p)] S3 = .nx [x0, x1, x2, some (.ref aa), some (.ref gp), x5, x6, some (.ref S1.length), some (vN p)] (S'.set S1.length (.lst ((fr ++ fr').map .ref))) := by
      simp only [x_expr, x_bm, x_var, List.getElem?_cons_succ, List.getElem?_cons_zero, R.bind_ok, gl, x_cons, x_call, x_nil, r1, c4, R.toO_ok]
    rw [eb]
    have hg3 : (rfF (fun t => an.getD t 0) p g).2.getD p [] = [] := (rf_ok ri.wf hp ri.bal).2.2.1
    refine ⟨0, by rw [if_neg hc]; omega, rfl, fr ++ fr', f ++ (rfF (fun t => an.getD t 0) p g).1, (rfF (fun t => an.getD t 0) p g).2, ?_, ri2, ?_, by rw [if_pos hg3]⟩
    · refine ⟨fun a h1 h3 => ?_, fun i l e => ?_, gself hN', ?_, ?_⟩
      · rw [gs (by omega), r3 a (by omega) h3]; exact h2.keep a h1 h3
      · have : i < n := by
          have := (List.getElem?_eq_some_iff.mp e).1
          rwa [ri2.wf.1] at this
        rw [gs (by omega)]; exact r4 i l e
      · rw [List.nodup_append]
        refine ⟨h.nd, r5, fun a ha b hb => ?_⟩
        obtain ⟨_, _, _, q⟩ := Paired.mem h2.rg ha
        obtain ⟨_, _, q1, _⟩ := Paired.mem r6 hb
        have := glt q
        omega
      · refine Paired.append (Paired.imp (fun r l ⟨q1, q2⟩ => ⟨q1, ?_⟩) h2.rg) (Paired.imp (fun r l ⟨q1, q2⟩ => ⟨by omega, ?_⟩) r6)
        · have := glt q2
          rw [gs (by omega), r3 r (by omega) (.inr (by omega))]; exact q2
        · rw [gs (by omega)]; exact q2
    · rw [hr]
      show (if g.getD p [] ≠ [] then _ else _) = (if (rfF (fun t => an.getD t 0) p g).2.getD p [] ≠ [] then _ else _)
      rw [if_pos hc, if_neg (fun z => z hg3)]
theorem rings_run {S : Sto} {n p q r : Nat} {vs : List Va} {ts : List (Nat × Nat)} {sh an : List Nat} (hp : S[p]? = some (.lst vs)) (ht : Tks S vs ts) (hg : GT n ts) (h1 : 1 ≤ n) (h2 : n ≤ 60) (hl : ts.length ≤ 900) (hq : S[q]? = some (LN sh)) (hs : GS ts sh) (hr : S[r]? = some (LN an)) (ha : GS ts an)
    (hb : loadsN n sh = loadsN n an) : ∃ T k fr, i_rings [vN n, .ref p, .ref q, .ref r] S = .ok (.ref k) (S ++ T) ∧ S.length ≤ k ∧ (S ++ T)[k]? = some (.lst (fr.map .ref)) ∧ fr.Nodup ∧
      Paired (fun a l => k < a ∧ (S ++ T)[a]? = some (LN l)) fr (ringsF n ts.length (fun t => sh.getD t 0) (fun t => an.getD t 0)) := by
  have hls := Paired.len hs
  have hla := Paired.len ha
  have hin : ∀ {zs : List Nat}, GS ts zs → ∀ x ∈ zs, x < n := fun {zs} hz x hx => by
    obtain ⟨k, hk⟩ := List.getElem?_of_mem hx
    have hk2 : k < ts.length := by have := (List.getElem?_eq_some_iff.mp hk).1; have := Paired.len hz; omega
    obtain ⟨y, e1, e2⟩ := Paired.get hz (show ts[k]? = some ts[k] by simp [hk2])
    rw [hk] at e1; cases e1
    obtain ⟨g1, g2⟩ := hg ts[k] (List.getElem_mem _)
    omega
  have hsn := hin hs
  have han := hin ha
  obtain ⟨T1, c1⟩ := check_tasks_ok hp ht hg h1 h2 (by omega)
  obtain ⟨T2, c2⟩ := check_sharing_ok (get_app (T := T1) hp) ht.app (get_app hq) hs (by omega)
  obtain ⟨T3, c3⟩ := check_sharing_ok (get_app (T := T2) (get_app (T := T1) hp)) ht.app.app (get_app (get_app hr)) ha (by omega)
  generalize hB : S ++ T1 ++ T2 ++ T3 = B at *
  have hpre : ∀ {a : Nat} {o : Ob}, S[a]? = some o → B[a]? = some o := fun {a o} e => by rw [← hB]; exact get_app (get_app (get_app e))
  have hBl : S.length ≤ B.length := by rw [← hB]; simp only [List.length_append]; omega
  have hBp : ∀ a, a < S.length → B[a]? = S[a]? := fun a e => by rw [← hB, gapp (by simp; omega), gapp (by simp; omega), gapp e]
  have c4 := loads_of_ok (hpre hq) hsn (by omega)
  have c5 := loads_of_ok (get_app (T := [.lst [.int 0], LN (loadsN n sh)]) (hpre hr)) han (by omega)
  have c6 : fNe (.ref (B.length + 1)) (.ref ((B ++ [.lst [.int 0], LN (loadsN n sh)]).length + 1)) (B ++ [.lst [.int 0], LN (loadsN n sh)] ++ [.lst [.int 0], LN (loadsN n an)]) = .ok (.bl false) (B ++ [.lst [.int 0], LN (loadsN n sh)] ++ [.lst [.int 0], LN (loadsN n an)]) := by
    rw [fNe_LN (get_app get_n1) get_n1, decide_eq_true hb]; rfl
  generalize hB2 : B ++ [Ob.lst [.int 0], LN (loadsN n sh)] ++ [Ob.lst [.int 0], LN (loadsN n an)] = B2 at *
  have hpre2 : ∀ {a : Nat} {o : Ob}, S[a]? = some o → B2[a]? = some o := fun {a o} e => by rw [← hB2]; exact get_app (get_app (hpre e))
  have hB2l : S.length ≤ B2.length := by rw [← hB2]; simp; omega
  have hB2p : ∀ a, a < S.length → B2[a]? = S[a]? := fun a e => by rw [← hB2, gapp (by simp; omega), gapp (by omega)]; exact hBp a e
  have c7 : ∀ ρ : Env, iLc (itRng (iVar 0)) (tgName 8) iYes (iLst iNil) [8] (some (vN n) :: ρ) B2 = .ok (.ref (B2.length + n)) (B2 ++ (List.replicate n (.lst []) ++ [.lst ((List.range n).map fun i => .ref (B2.length + i))])) := fun ρ => by
    have hrl : (rng 0 (n : Int)).length = n := by unfold rng; simp
    have e : ((rng 0 (n : Int)).map fun i => It1.one (.int i)) = ((rng 0 (n : Int)).map Va.int).map .one := by rw [List.map_map]; rfl
    have := lc_new (tg := tgName 8) (ρ := wipeE (some (vN n) :: ρ) [8]) (fun v S => ⟨_, rfl⟩) ((rng 0 (n : Int)).map Va.int) B2
    rw [List.length_map, hrl] at this
    have h100 : ((-100000 : Int) ≤ n ∧ (n : Int) ≤ 100000) := by omega
    simp only [iLc, x_itRng, x_var, List.getElem?_cons_zero, R.bind_ok, vN, h100, and_self, if_true, List.length_map, hrl] at this ⊢
    rw [if_pos (by omega), e, this]
    simp
  obtain ⟨x5, x6, c8⟩ := giving_ok (B := B2) (n := n) (x0 := some (vN n)) (x1 := some (.ref p)) (x7 := none) (x8 := none) (hpre2 hq) (hpre2 hr) (by omega) hsn (by omega) _ rfl
  obtain ⟨L, hL⟩ : ∃ L, L = Ob.lst ((List.range n).map fun i => .ref (B2.length + i)) := ⟨_, rfl⟩
  obtain ⟨g0, hg0⟩ : ∃ g0, g0 = giv n sh.length (fun t => sh.getD t 0) (fun t => an.getD t 0) := ⟨_, rfl⟩
  rw [← hg0, ← hL] at c8
  rw [← hL] at c7
  have hg0l : g0.length = n := by rw [hg0]; exact giv_len
  obtain ⟨S1, hS1⟩ : ∃ S1, S1 = B2 ++ (g0.map LN ++ [L]) := ⟨_, rfl⟩
  rw [← hS1] at c8
  have hS1l : S1.length = B2.length + n + 1 := by rw [hS1]; simp [hg0l]; omega
  have hget : ∀ t, t < sh.length → sh.getD t 0 < n := fun t e => hsn _ (by rw [show sh.getD t 0 = sh[t] by simp [List.getD, e]]; exact List.getElem_mem _)
  have hgetA : ∀ t, t < sh.length → an.getD t 0 < n := fun t e => han _ (by rw [show an.getD t 0 = an[t]'(by omega) by simp [List.getD, show t < an.length by omega]]; exact List.getElem_mem _)
  have cnt : ∀ (zs : List Nat) (k : Nat), (List.range zs.length).countP (fun t => zs.getD t 0 = k) = zs.count k := fun zs k => by
    have e : zs = (List.range zs.length).map fun t => zs.getD t 0 := by
      apply List.ext_getElem?
      intro i
      by_cases hi : i < zs.length
      · simp [hi, List.getD]
      · rw [List.getElem?_eq_none (by omega), List.getElem?_eq_none (by simp; omega)]
    conv => rhs; rw [e]
    rw [List.count, List.countP_map]
    apply List.countP_congr
    intro t _
    simp
  have hbal : ∀ k, (List.range sh.length).countP (fun t => sh.getD t 0 = k) = (List.range sh.length).countP (fun t => an.getD t 0 = k) := fun k => by
    rw [cnt, show sh.length = an.length by omega, cnt]
    by_cases hk : k < n
    · have := congrArg (fun l => l[k]?) hb
      simp only [loadsN_get hk] at this
      exact Option.some.inj this
    · rw [List.count_eq_zero.mpr (fun z => hk (hsn k z)), List.count_eq_zero.mpr (fun z => hk (han k z))]
  have hgl : ∀ t ∈ g0.flatten, t < an.length := fun t ht => by
    rw [hg0] at ht
    have := (giv_flat n sh.length (fun t => sh.getD t 0) (fun t => an.getD t 0)).subset ht
    rw [List.mem_filter, List.mem_range] at this
    omega
  have hgsz : g0.flatten.length ≤ 900 := by
    have := (giv_flat n sh.length (fun t => sh.getD t 0) (fun t => an.getD t 0)).length_eq
    rw [← hg0] at this
    rw [this]
    exact Nat.le_trans (List.length_filter_le _ _) (by simp; omega)
  have ri0 : Ri n (fun t => sh.getD t 0) (fun t => an.getD t 0) g0 ([], g0) := by
    rw [hg0]
    exact ⟨giv_wf hgetA, giv_bal hget hbal, fun r hr => (by cases hr), by simp⟩
  have hgp : S1[B2.length + n]? = some (.lst ((List.range n).map fun i => .ref (B2.length + i))) := by
    rw [hS1, ← hL]; exact get_end (by rw [List.length_map, hg0l])
  have hrS1 : S1[r]? = some (LN an) := by rw [hS1]; exact get_app (hpre2 hr)
  have hrl := glt (hpre2 hr)
  obtain ⟨ρ9, S9, c9, x8, fr, e9, rg9, ri9⟩ := for_nx (chk := fun _ => true) (tg := tgName 8) (body := rgB)
    (fun k ρ S' => ∃ x8 fr, ρ = [some (vN n), some (.ref p), some (.ref q), some (.ref r), some (.ref (B2.length + n)), x5, x6, some (.ref S1.length), x8] ∧ RG S1 n B2.length fr (rgo (fun t => an.getD t 0) (List.range k) ([], g0)) S' ∧ Ri n (fun t => sh.getD t 0) (fun t => an.getD t 0) g0 (rgo (fun t => an.getD t 0) (List.range k) ([], g0)))
    ((rng 0 (n : Int)).map fun i => It1.one (.int i)) [some (vN n), some (.ref p), some (.ref q), some (.ref r), some (.ref (B2.length + n)), x5, x6, some (.ref S1.length), none] (S1 ++ [.lst []])
    ⟨none, [], rfl, ⟨fun a e _ => gapp e, fun i l e => get_app (by rw [hS1]; exact get_mid (by rw [List.getElem?_map, show g0[i]? = some l from e]; rfl)), get_n0, by simp, .nil⟩, ri0⟩
    (fun j it ρ S' hj ⟨x8, fr, e1, rg, ri⟩ => by
      subst e1
      obtain ⟨k, z1, rfl⟩ := map_get hj
      have hjn : j < n := by
        have := (List.getElem?_eq_some_iff.mp z1).1
        unfold rng at this; simpa using this
      have hk : k = (j : Int) := by
        unfold rng at z1
        obtain ⟨y, z2, rfl⟩ := map_get z1
        have := (List.getElem?_eq_some_iff.mp z2)
        obtain ⟨q1, q2⟩ := this
        rw [List.getElem_range] at q2
        omega
      subst hk
      obtain ⟨fr', S2, d1, d2⟩ := rg_turn (x0 := some (vN n)) (x1 := some (.ref p)) (x2 := some (.ref q)) (x5 := x5) (x6 := x6) rg ri hgp (Nat.le_refl _) hrS1 (.inl hrl) hjn hgsz hgl
      refine ⟨rfl, _, _, rfl, _, S2, d1, some (vN j), fr', rfl, ?_, ?_⟩
      · rw [List.range_succ, rgo_snoc]; exact d2
      · rw [List.range_succ, rgo_snoc]
        generalize rgo (fun t => an.getD t 0) (List.range j) ([], g0) = fg at *
        obtain ⟨f, g⟩ := fg
        show Ri _ _ _ _ (if g.getD j [] ≠ [] then _ else _)
        split
        · exact ri.turn hjn
        · exact ri) (fun _ _ _ => rfl)
  have hrl9 : (rng 0 (n : Int)).length = n := by unfold rng; simp
  rw [List.length_map, hrl9] at rg9 ri9
  obtain ⟨T, hT⟩ := prefix_of (S := S) (S' := S9) (fun a e => by
    rw [rg9.keep a (by omega) (.inl (by omega)), hS1, gapp (by omega)]; exact hB2p a e)
  subst hT
  have hrf : ringsF n ts.length (fun t => sh.getD t 0) (fun t => an.getD t 0) = (rgo (fun t => an.getD t 0) (List.range n) ([], g0)).1 := by
    unfold ringsF; rw [hg0, hls]
  refine ⟨T, S1.length, fr, ?_, by omega, rg9.fnd, rg9.nd, by rw [hrf]; exact rg9.rg⟩
  subst e9
  have h100 : ((-100000 : Int) ≤ n ∧ (n : Int) ≤ 100000) := by omega
  have lq : getL (B2 ++ (List.replicate n (.lst []) ++ [L])) (.ref q) = some (sh.map vN) := getL_LN (get_app (hpre2 hq))
  have c10 : ∀ (ρ : Env) (S' : Sto), itRng (iVar 0) (some (vN n) :: ρ) S' = .ok ⟨(rng 0 (n : Int)).map fun i => .one (.int i), fun _ => true⟩ S' := fun ρ S' => by
    simp only [x_itRng, x_var, List.getElem?_cons_zero, R.bind_ok, vN, h100, and_self, if_true]
  simp only [i_rings, mk4, List.replicate]
  simp only [x_seq, x_expr, x_call, x_cons, x_var, x_nil, List.getElem?_cons_succ, List.getElem?_cons_zero, R.bind_ok, c1, c2, c3, R.toO_ok, O.seq_nx, x_sif, x_B, x_op, c4, c5, c6, x_asB, Bool.false_eq_true, if_false, x_next, x_asg, c7, x_tgName, List.set, x_for, x_itEnum, lq, c8, x_lst, c10, c9, x_ret, x_val_rt]
end IL

end
section
set_option linter.all false
set_option maxRecDepth 100000
set_option maxHeartbeats 1000000
namespace IL
open PySem L2
abbrev bits := PySem.Builtin.Int.intBits
theorem fMul_ii {S : Sto} {x y : Int} (h : IntMulOk x y) : fMul (.int x) (.int y) S = .ok (.int (x * y)) S := by simp [fMul, h]
theorem bits_small {x : Int} {k : Nat} (h : x.natAbs < 2 ^ k) : bits x ≤ k := by
  unfold bits PySem.Builtin.Int.intBits
  split
  · omega
  · rename_i h0
    have h0' : x ≠ 0 := by simpa using h0
    have := (Nat.log2_lt (n := x.natAbs) (k := k) (by omega)).mpr h
    omega
theorem number_ok {S : Sto} {c a w : Int} (hc : bits c ≤ 1048576) (ha : 0 ≤ a) (ha2 : a ≤ 200) (hw : bits w ≤ 1048700) : ∃ z, i__law_number [.int c, .int a, .int w] S = .ok (.int z) S := by
  have ba : bits a ≤ 8 := bits_small (by omega)
  have b977 : bits 977 ≤ 10 := bits_small (by decide)
  have b48 : bits 48271 ≤ 16 := bits_small (by decide)
  have b31 : bits 31 ≤ 5 := bits_small (by decide)
  have b7 : bits 7 ≤ 5 := bits_small (by decide)
  have b5 : bits 5 ≤ 5 := bits_small (by decide)
  have b21 : bits 2147483647 ≤ 31 := bits_small (by decide)
  have m1 : IntMulOk 977 a := PyProof.Rows.mulOk_of_bits b977 ba (by omega)
  have b1 : bits (977 * a) ≤ 18 := PyProof.Rows.bits_mul b977 ba
  have b2 : bits (c + 977 * a) ≤ 1048577 := PyProof.Rows.bits_add hc b1
  have m2 : IntMulOk (c + 977 * a) 48271 := PyProof.Rows.mulOk_of_bits b2 b48 (by omega)
  have b3 : bits (((c + 977 * a) * 48271 + w) % 2147483647) ≤ 31 := by
    refine bits_small ?_
    have := Int.emod_nonneg ((c + 977 * a) * 48271 + w) (show (2147483647 : Int) ≠ 0 by decide)
    have := Int.emod_lt_of_pos ((c + 977 * a) * 48271 + w) (show (0 : Int) < 2147483647 by decide)
    omega
  generalize hm : ((c + 977 * a) * 48271 + w) % 2147483647 = mx at *
  have m3 : IntMulOk 31 a := PyProof.Rows.mulOk_of_bits b31 ba (by omega)
  have b4 : bits (mx + 31 * a + 7) ≤ 33 := PyProof.Rows.bits_add (PyProof.Rows.bits_add b3 (PyProof.Rows.bits_mul b31 ba)) b7
  have m4 : IntMulOk mx (mx + 31 * a + 7) := PyProof.Rows.mulOk_of_bits b3 b4 (by omega)
  have b5' : bits (mx * (mx + 31 * a + 7)) ≤ 64 := PyProof.Rows.bits_mul b3 b4
  have b6 : bits (mx + c + 5) ≤ 1048578 := PyProof.Rows.bits_add (PyProof.Rows.bits_add b3 hc) b5
  have m5 : IntMulOk (mx * (mx + 31 * a + 7)) (mx + c + 5) := PyProof.Rows.mulOk_of_bits b5' b6 (by omega)
  have b7' : bits (mx * (mx + 31 * a + 7) * (mx + c + 5)) ≤ 1048642 := PyProof.Rows.bits_mul b5' b6
  generalize hmo : mx * (mx + 31 * a + 7) * (mx + c + 5) = mo at *
  have b8 : bits (mo + 48271) ≤ 1048643 := PyProof.Rows.bits_add b7' b48
  have m6 : IntMulOk mo (mo + 48271) := PyProof.Rows.mulOk_of_bits b7' b8 (by omega)
  by_cases h : (1000000000000000000 : Int) ≤ c
  · refine ⟨c, ?_⟩
    simp only [i__law_number, mk3, List.replicate]
    simp [fPow, h]
  · refine ⟨mo * (mo + 48271) / 1009, ?_⟩
    simp only [i__law_number, mk3, List.replicate]
    simp [fPow, h, fMul_ii m1, fMul_ii m2, fMod, hm, fMul_ii m3, fMul_ii m4, fMul_ii m5, hmo, fMul_ii m6, fDiv]
/-! ### people and tasks -/
def Tup (S S' : Sto) : Prop := ∀ (q : Nat) xs, S[q]? = some (.tup xs) → S'[q]? = some (.tup xs)
theorem Tks.tup {S S' : Sto} {vs : List Va} {ts : List (Nat × Nat)} (h : Tks S vs ts) (t : Tup S S') : Tks S' vs ts := Paired.imp (fun _ _ ⟨q, h1, h2⟩ => ⟨q, h1, t q _ h2⟩) h
theorem tup_app {S T : Sto} : Tup S (S ++ T) := fun q xs h => get_app h
theorem tup_set {S : Sto} {p : Nat} {xs : List Va} {o : Ob} (h : S[p]? = some (.lst xs)) : Tup S (S.set p o) := fun q ys e => by
  rw [gs]; exact e
  rintro rfl; rw [h] at e; cases e
theorem Tup.trans {S S1 S2 : Sto} (a : Tup S S1) (b : Tup S1 S2) : Tup S S2 := fun q xs h => b q xs (a q xs h)
theorem other_ne {n o y : Nat} (h : 2 ≤ n) (ho : o < n) (hy : y < n - 1) : (o + 1 + y) % n ≠ o ∧ (o + 1 + y) % n < n := by
  refine ⟨?_, Nat.mod_lt _ (by omega)⟩
  by_cases e : o + 1 + y < n
  · rw [Nat.mod_eq_of_lt e]; omega
  · rw [Nat.mod_eq_sub_mod (by omega), Nat.mod_eq_of_lt (by omega)]; omega
theorem emod_nat (z : Int) (n : Nat) (h : 0 < n) : ∃ k : Nat, k < n ∧ z % (n : Int) = (k : Int) := by
  have h1 := Int.emod_nonneg z (show (n : Int) ≠ 0 by omega)
  have h2 := Int.emod_lt_of_pos z (show (0 : Int) < n by omega)
  exact ⟨(z % (n : Int)).toNat, by omega, by omega⟩
theorem fEq_ii {S : Sto} {x y : Int} : fEq (.int x) (.int y) S = .ok (.bl (decide (x = y))) S := by
  simp only [fEq, toP, PyData.eqv]
  congr 2
theorem sum_bits : ∀ {cs : List Int}, (∀ z ∈ cs, bits z ≤ 1048576) → bits cs.sum ≤ 1048576 + cs.length
  | [], _ => by simp [bits, PySem.Builtin.Int.intBits]
  | c :: cs, h => by
    rw [List.sum_cons, List.length_cons]
    have h1 := sum_bits (cs := cs) fun z hz => h z (List.mem_cons_of_mem _ hz)
    have h2 : bits (c + cs.sum) ≤ max 1048576 (1048576 + cs.length) + 1 := PyProof.Rows.bits_add (h c List.mem_cons_self) h1
    omega
end IL

end
section
set_option linter.all false
set_option maxRecDepth 100000
set_option maxHeartbeats 1000000
namespace IL
open PySem L2
noncomputable abbrev ltB : IS := (sSeq (sAsg (iCall i__law_number (iCons (iVar 6) (iCons (iVar 5) (iCons (iVar 2) iNil)))) (tgName 7))
  (sSeq (sAsg (iOp fMod (iVar 7) (iVar 3)) (tgName 8))
  (sSeq (sIf (iB (iOp fEq (iOp fMod (iOp fDiv (iVar 2) (iC (.int 24))) (iC (.int 6))) (iC (.int 1)))) (sAsg (iOp fMod (iOp fMod (iVar 7) (iC (.int 3))) (iVar 3)) (tgName 8)) sNext)
  (sSeq (sAsg (iOp fMod (iOp fAdd (iOp fAdd (iVar 8) (iC (.int 1))) (iOp fMod (iOp fDiv (iVar 7) (iVar 3)) (iOp fSub (iVar 3) (iC (.int 1))))) (iVar 3)) (tgName 9))
  (sSeq (sIf (iB (iOp fEq (iOp fMod (iOp fDiv (iVar 2) (iC (.int 24))) (iC (.int 6))) (iC (.int 2)))) (sAsg (iOp fMod (iOp fAdd (iVar 8) (iC (.int 1))) (iVar 3)) (tgName 9)) sNext)
  (sSeq (sIf (iB (iOp fEq (iOp fMod (iOp fDiv (iVar 2) (iC (.int 24))) (iC (.int 6))) (iC (.int 3)))) (sPar 8 9 (iCons (iOp fMod (iVar 5) (iVar 3)) (iCons (iOp fMod (iOp fAdd (iVar 5) (iC (.int 1))) (iVar 3)) iNil))) sNext)
  (sExpr (iBM mAppend (iVar 4) (iCons (IL.iTup (iCons (iCB fMin (iCons (iVar 8) (iCons (iVar 9) iNil))) (iCons (iCB fMax (iCons (iVar 8) (iCons (iVar 9) iNil))) iNil))) iNil)))))))))
theorem fMod_N {S : Sto} {z : Int} {n k : Nat} (hn : 0 < n) (h : z % (n : Int) = (k : Int)) : fMod (.int z) (vN n) S = .ok (vN k) S := by
  simp only [fMod, vN]
  rw [if_pos (by omega), h]
theorem lt_body {S : Sto} {n j f : Nat} {c w : Int} {vs : List Va} {x0 x1 x7 x8 x9 : Option Va} (hc : bits c ≤ 1048576) (hw : bits w ≤ 1048700) (hj : j ≤ 63) (h2 : 2 ≤ n) (h60 : n ≤ 60) (hf : S[f]? = some (.lst vs)) (hl : vs.length < 1000) :
    ∃ a b x7' x8' x9', a < b ∧ b < n ∧ ltB [x0, x1, some (.int w), some (vN n), some (.ref f), some (vN j), some (.int c), x7, x8, x9] S = .nx [x0, x1, some (.int w), some (vN n), some (.ref f), some (vN j), some (.int c), x7', x8', x9'] ((S ++ [Ob.tup [vN a, vN b]]).set f (Ob.lst (vs ++ [Va.ref S.length]))) := by
  obtain ⟨z, hz⟩ := number_ok (S := S) (c := c) (a := (j : Int)) (w := w) hc (by omega) (by omega) hw
  have hz' : i__law_number [.int c, vN j, .int w] S = .ok (.int z) S := hz
  obtain ⟨o1, ho1, e1⟩ := emod_nat z n (by omega)
  obtain ⟨t3, ht3, e2⟩ := emod_nat z 3 (by omega)
  obtain ⟨o2, ho2, e3⟩ := emod_nat (t3 : Int) n (by omega)
  obtain ⟨y, hy, e4⟩ := emod_nat (z / (n : Int)) (n - 1) (by omega)
  obtain ⟨o3, ho3, e5⟩ := emod_nat (j : Int) n (by omega)
  have c1 := fun S => fMod_N (S := S) (by omega : 0 < n) e1
  have c2 : ∀ S, fMod (.int z) (.int 3) S = .ok (.int t3) S := fun S => fMod_N (n := 3) (by omega) e2
  have c3 : ∀ S, fMod (.int t3) (vN n) S = .ok (vN o2) S := fun S => fMod_N (by omega) e3
  have c4 : ∀ S, fDiv (.int z) (vN n) S = .ok (.int (z / (n : Int))) S := fun S => by simp only [fDiv, vN]; rw [if_pos (by omega)]
  have c5 : ∀ S, fSub (vN n) (.int 1) S = .ok (.int ((n - 1 : Nat) : Int)) S := fun S => by
    show R.ok (Va.int ((n : Int) - 1)) S = _
    rw [show ((n : Int) - 1) = ((n - 1 : Nat) : Int) by omega]
  have c6 : ∀ S, fMod (.int (z / (n : Int))) (.int ((n - 1 : Nat) : Int)) S = .ok (.int (y : Int)) S := fun S => fMod_N (by omega) e4
  have c7 : ∀ (o k : Nat) S, fMod (.int ((o : Int) + 1 + (k : Int))) (vN n) S = .ok (vN ((o + 1 + k) % n)) S := fun o k S => fMod_N (by omega) (by rw [show ((o : Int) + 1 + (k : Int)) = ((o + 1 + k : Nat) : Int) by omega]; exact (Int.natCast_emod _ _).symm)
  have c8 : ∀ (o : Nat) S, fMod (.int ((o : Int) + 1)) (vN n) S = .ok (vN ((o + 1 + 0) % n)) S := fun o S => fMod_N (by omega) (by rw [show ((o : Int) + 1) = ((o + 1 + 0 : Nat) : Int) by omega]; exact (Int.natCast_emod _ _).symm)
  have c9 : ∀ S, fMod (vN j) (vN n) S = .ok (vN o3) S := fun S => fMod_N (by omega) e5
  have c10 : ∀ S, fMod (.int ((j : Int) + 1)) (vN n) S = .ok (vN ((o3 + 1 + 0) % n)) S := fun S => fMod_N (by omega) (by
    have : (j : Int) % (n : Int) = ((j % n : Nat) : Int) := (Int.natCast_emod _ _).symm
    rw [this] at e5
    have e6 : j % n = o3 := by omega
    rw [show ((j : Int) + 1) = ((j + 1 : Nat) : Int) by omega, ← Int.natCast_emod, ← e6]
    congr 1
    exact (Nat.mod_add_mod j n 1).symm)
  have fin : ∀ a b : Nat, a < n → b < n → a ≠ b → ∀ x7' : Option Va, ∃ a' b' x7'' x8' x9', a' < b' ∧ b' < n ∧ (sExpr (iBM mAppend (iVar 4) (iCons (IL.iTup (iCons (iCB fMin (iCons (iVar 8) (iCons (iVar 9) iNil))) (iCons (iCB fMax (iCons (iVar 8) (iCons (iVar 9) iNil))) iNil))) iNil))) [x0, x1, some (.int w), some (vN n), some (.ref f), some (vN j), some (.int c), x7', some (vN a), some (vN b)] S = .nx [x0, x1, some (.int w), some (vN n), some (.ref f), some (vN j), some (.int c), x7'', x8', x9'] ((S ++ [Ob.tup [vN a', vN b']]).set f (Ob.lst (vs ++ [Va.ref S.length]))) := fun a b ha hb hne x7' => by
    refine ⟨min a b, max a b, x7', some (vN a), some (vN b), by omega, by omega, ?_⟩
    have d1 : fMin [vN a, vN b] S = .ok (vN (min a b)) S := by show R.ok (Va.int (min (a : Int) b)) S = _; rw [show min (a : Int) b = ((min a b : Nat) : Int) by omega]; rfl
    have d2 : fMax [vN a, vN b] S = .ok (vN (max a b)) S := by show R.ok (Va.int (max (a : Int) b)) S = _; rw [show max (a : Int) b = ((max a b : Nat) : Int) by omega]; rfl
    have d3 : (S ++ [Ob.tup [vN (min a b), vN (max a b)]])[f]? = some (.lst vs) := get_app hf
    have d4 : mAppend (.ref f) [.ref S.length] (S ++ [Ob.tup [vN (min a b), vN (max a b)]]) = .ok .non ((S ++ [Ob.tup [vN (min a b), vN (max a b)]]).set f (Ob.lst (vs ++ [Va.ref S.length]))) := by
      simp only [mAppend, d3]
      rw [if_pos (by omega)]
    simp only [x_expr, x_bm, x_var, List.getElem?_cons_succ, List.getElem?_cons_zero, R.bind_ok, getL_ref hf, x_cons, x_tup, x_cb, x_nil, d1, d2, d4, R.toO_ok]
  have w24 : ∀ S, fDiv (.int w) (.int 24) S = .ok (.int (w / 24)) S := fun S => by simp [fDiv]
  have w6 : ∀ S, fMod (.int (w / 24)) (.int 6) S = .ok (.int (w / 24 % 6)) S := fun S => by simp [fMod]
  have addv : ∀ (o : Nat) S, fAdd (vN o) (.int 1) S = .ok (.int ((o : Int) + 1)) S := fun o S => rfl
  have addw : ∀ (o k : Nat) S, fAdd (.int ((o : Int) + 1)) (.int (k : Int)) S = .ok (.int ((o : Int) + 1 + (k : Int))) S := fun o k S => rfl
  have hh : ∃ o, o < n ∧ ((w / 24 % 6 = 1 ∧ o = o2) ∨ (w / 24 % 6 ≠ 1 ∧ o = o1)) := by
    by_cases h : w / 24 % 6 = 1
    · exact ⟨o2, ho2, .inl ⟨h, rfl⟩⟩
    · exact ⟨o1, ho1, .inr ⟨h, rfl⟩⟩
  obtain ⟨z1, z2⟩ := other_ne (y := y) h2 ho1 (by omega)
  obtain ⟨z3, z4⟩ := other_ne (y := y) h2 ho2 (by omega)
  obtain ⟨z5, z6⟩ := other_ne (y := 0) h2 ho1 (by omega)
  obtain ⟨z7, z8⟩ := other_ne (y := 0) h2 ho2 (by omega)
  obtain ⟨z9, z0⟩ := other_ne (y := 0) h2 ho3 (by omega)
  by_cases k1 : w / 24 % 6 = 1
  · have d1 := decide_eq_true k1
    have d2 : decide (w / 24 % 6 = 2) = false := decide_eq_false (by omega)
    have d3 : decide (w / 24 % 6 = 3) = false := decide_eq_false (by omega)
    simp only [x_seq, x_asg, x_call, x_cons, x_nil, x_var, List.getElem?_cons_succ, List.getElem?_cons_zero, R.bind_ok, hz', R.toO_ok, x_tgName, List.set, O.seq_nx, x_op, c1, x_sif, x_B, w24, w6, x_c, fEq_ii, x_asB, d1, d2, d3, if_true, Bool.false_eq_true, if_false, c2, c3, addv, c4, c5, c6, addw, c7, x_next]
    exact fin o2 ((o2 + 1 + y) % n) ho2 z4 (Ne.symm z3) (some (.int z))
  · have d1 := decide_eq_false k1
    by_cases k2 : w / 24 % 6 = 2
    · have d2 := decide_eq_true k2
      have d3 : decide (w / 24 % 6 = 3) = false := decide_eq_false (by omega)
      simp only [x_seq, x_asg, x_call, x_cons, x_nil, x_var, List.getElem?_cons_succ, List.getElem?_cons_zero, R.bind_ok, hz', R.toO_ok, x_tgName, List.set, O.seq_nx, x_op, c1, x_sif, x_B, w24, w6, x_c, fEq_ii, x_asB, d1, d2, d3, if_true, Bool.false_eq_true, if_false, c2, c3, addv, c4, c5, c6, addw, c7, x_next, c8]
      exact fin o1 ((o1 + 1 + 0) % n) ho1 z6 (Ne.symm z5) (some (.int z))
    · have d2 := decide_eq_false k2
      by_cases k3 : w / 24 % 6 = 3
      · have d3 := decide_eq_true k3
        have adj : ∀ S, fAdd (vN j) (.int 1) S = .ok (.int ((j : Int) + 1)) S := fun S => rfl
        simp only [x_seq, x_asg, x_call, x_cons, x_nil, x_var, List.getElem?_cons_succ, List.getElem?_cons_zero, R.bind_ok, hz', R.toO_ok, x_tgName, List.set, O.seq_nx, x_op, c1, x_sif, x_B, w24, w6, x_c, fEq_ii, x_asB, d1, d2, d3, if_true, Bool.false_eq_true, if_false, c2, c3, addv, c4, c5, c6, addw, c7, x_next, x_par, c9, adj, c10]
        exact fin o3 ((o3 + 1 + 0) % n) ho3 z0 (Ne.symm z9) (some (.int z))
      · have d3 := decide_eq_false k3
        simp only [x_seq, x_asg, x_call, x_cons, x_nil, x_var, List.getElem?_cons_succ, List.getElem?_cons_zero, R.bind_ok, hz', R.toO_ok, x_tgName, List.set, O.seq_nx, x_op, c1, x_sif, x_B, w24, w6, x_c, fEq_ii, x_asB, d1, d2, d3, if_true, Bool.false_eq_true, if_false, c2, c3, addv, c4, c5, c6, addw, c7, x_next]
        exact fin o1 ((o1 + 1 + y) % n) ho1 z2 (Ne.symm z1) (some (.int z))
theorem mulOk_nat {x y : Nat} (hx : x < 2 ^ 30) (hy : y < 2 ^ 30) : IntMulOk (x : Int) (y : Int) := PyProof.Rows.mulOk_of_bits (bits_small (k := 30) (by omega)) (bits_small (k := 30) (by omega)) (by omega)
theorem cut63 (cs : List Int) (h : cs.length ≤ 63) : cut (cs.map Va.int) none (some 63) = cs.map Va.int := by
  have := cut_to (cs.map Va.int) 63
  rw [show ((63 : Nat) : Int) = 63 from rfl] at this
  rw [this, List.take_of_length_le (by rw [List.length_map]; exact h)]
/-- tasks as they lie -/
structure TL (S : Sto) (p n : Nat) (ts : List (Nat × Nat)) : Prop where
  ex : ∃ vs, S[p]? = some (.lst vs) ∧ Tks S vs ts
  gt : GT n ts
theorem TL.app {S T : Sto} {p n : Nat} {ts : List (Nat × Nat)} (h : TL S p n ts) : TL (S ++ T) p n ts := by
  obtain ⟨vs, h1, h2⟩ := h.ex
  exact ⟨⟨vs, get_app h1, h2.app⟩, h.gt⟩
theorem tasks_ok {S : Sto} {v : Va} {cs : List Int} (hv : getL S v = some (cs.map .int)) (hl : cs.length ≤ 63) (hb : ∀ z ∈ cs, bits z ≤ 1048576) :
    ∃ T k p n ts, i__law_tasks [v] S = .ok (.ref k) (S ++ T) ∧ (S ++ T)[k]? = some (.tup [vN n, .ref p]) ∧ S.length ≤ p ∧ TL (S ++ T) p n ts ∧ 2 ≤ n ∧ n ≤ 60 ∧ ts.length = cs.length := by
  have hsum := sum_bits hb
  generalize hw : cs.sum = w at *
  have hm : ((max 2 (cs.length * 2 / 3) : Nat) : Int) = max 2 ((cs.length : Int) * 2 / 3) := by omega
  obtain ⟨L8, hL8⟩ : ∃ L8, L8 = [vN 2, vN 3, vN 5, vN 9, vN 20, vN 60, vN 4, vN (max 2 (cs.length * 2 / 3))] := ⟨_, rfl⟩
  obtain ⟨n, h2, h60, hn⟩ : ∃ n : Nat, 2 ≤ n ∧ n ≤ 60 ∧ atI L8 (w / 3 % 8) = some (vN n) := by
    obtain ⟨j, hj, e⟩ := emod_nat (w / 3) 8 (by omega)
    rw [show ((8 : Nat) : Int) = 8 from rfl] at e
    rw [e]
    have hj' : j = 0 ∨ j = 1 ∨ j = 2 ∨ j = 3 ∨ j = 4 ∨ j = 5 ∨ j = 6 ∨ j = 7 := by omega
    rcases hj' with rfl | rfl | rfl | rfl | rfl | rfl | rfl | rfl
    · exact ⟨2, by omega, by omega, atI_nat' (by rw [hL8]; rfl)⟩
    · exact ⟨3, by omega, by omega, atI_nat' (by rw [hL8]; rfl)⟩
    · exact ⟨5, by omega, by omega, atI_nat' (by rw [hL8]; rfl)⟩
    · exact ⟨9, by omega, by omega, atI_nat' (by rw [hL8]; rfl)⟩
    · exact ⟨20, by omega, by omega, atI_nat' (by rw [hL8]; rfl)⟩
    · exact ⟨60, by omega, by omega, atI_nat' (by rw [hL8]; rfl)⟩
    · exact ⟨4, by omega, by omega, atI_nat' (by rw [hL8]; rfl)⟩
    · exact ⟨max 2 (cs.length * 2 / 3), by omega, by omega, atI_nat' (by rw [hL8]; rfl)⟩
  obtain ⟨S1, hS1⟩ : ∃ S1, S1 = S ++ [Ob.lst (cs.map .int), Ob.tup L8] := ⟨_, rfl⟩
  have hS1l : S1.length = S.length + 2 := by rw [hS1]; simp
  have hcell : S1[S.length]? = some (.lst (cs.map .int)) := by rw [hS1]; exact get_n0
  have c1 : fSum [.ref S.length] (S ++ [Ob.lst (cs.map .int)]) = .ok (.int w) (S ++ [Ob.lst (cs.map .int)]) := by
    simp only [fSum, getL_ref get_n0, Option.bind_some, asIs_I, hw]
  have c2 : fLen [.ref S.length] (S ++ [Ob.lst (cs.map .int)]) = .ok (.int cs.length) (S ++ [Ob.lst (cs.map .int)]) := by
    simp only [fLen, getQ_lst get_n0, List.length_map]
  have c3 : fMul (.int (cs.length : Int)) (.int 2) (S ++ [Ob.lst (cs.map .int)]) = .ok (.int ((cs.length : Int) * 2)) (S ++ [Ob.lst (cs.map .int)]) := fMul_ii (mulOk_nat (y := 2) (by omega) (by omega))
  have c4 : fDiv (.int ((cs.length : Int) * 2)) (.int 3) (S ++ [Ob.lst (cs.map .int)]) = .ok (.int ((cs.length : Int) * 2 / 3)) (S ++ [Ob.lst (cs.map .int)]) := by simp [fDiv]
  have c5 : fMax [.int 2, .int ((cs.length : Int) * 2 / 3)] (S ++ [Ob.lst (cs.map .int)]) = .ok (vN (max 2 (cs.length * 2 / 3))) (S ++ [Ob.lst (cs.map .int)]) := by
    simp only [fMax]; rw [← hm]; rfl
  have c6 : ∀ S', fDiv (.int w) (.int 3) S' = .ok (.int (w / 3)) S' := fun S' => by simp [fDiv]
  have c7 : ∀ S', fMod (.int (w / 3)) (.int 8) S' = .ok (.int (w / 3 % 8)) S' := fun S' => by simp [fMod]
  have c8 : fIx (.ref (S.length + 1)) (.int (w / 3 % 8)) S1 = .ok (vN n) S1 := by
    have : S1[S.length + 1]? = some (.tup L8) := by rw [hS1]; exact get_n1
    simp only [fIx, getQ_tup this, hn]
  obtain ⟨ρ', S', d1, ts, vs, x5, x6, x7, x8, x9, d2, d3, d4, d5, d6⟩ := for_nx (chk := sameAt (S1 ++ [.lst []]) (.ref S.length)) (tg := tgTupN 2 [tgName 5, tgName 6]) (body := ltB)
    (fun k ρ S' => ∃ ts vs x5 x6 x7 x8 x9, ρ = [some v, some (.ref S.length), some (.int w), some (vN n), some (.ref S1.length), x5, x6, x7, x8, x9] ∧ (∃ G, S' = S1 ++ .lst vs :: G) ∧ Tks S' vs ts ∧ GT n ts ∧ ts.length = k) (enuI 0 (cs.map .int))
    [some v, some (.ref S.length), some (.int w), some (vN n), some (.ref S1.length), none, none, none, none, none] (S1 ++ [.lst []])
    ⟨[], [], none, none, none, none, none, rfl, ⟨[], rfl⟩, .nil, fun t h => (by cases h), rfl⟩
    (fun j it ρ S' hj ⟨ts, vs, x5, x6, x7, x8, x9, e1, ⟨G, e2⟩, e3, e4, e5⟩ => by
      subst e1
      obtain ⟨x, z1, rfl⟩ := enuI_get0 hj
      obtain ⟨c, z2, rfl⟩ := map_get z1
      have hjl : j < cs.length := (List.getElem?_eq_some_iff.mp z2).1
      have hlen := Paired.len e3
      have hf : S'[S1.length]? = some (.lst vs) := by rw [e2]; exact get_n0
      obtain ⟨a, b, x7', x8', x9', q1, q2, q3⟩ := lt_body (x0 := some v) (x1 := some (.ref S.length)) (x7 := x7) (x8 := x8) (x9 := x9) (j := j) (hb c (List.mem_of_getElem? z2)) (show bits w ≤ 1048700 by omega) (by omega) h2 h60 hf (by omega)
      refine ⟨by rw [e2]; exact sameAt_app2 hcell, _, _, rfl, _, _, q3, ts ++ [(a, b)], vs ++ [.ref S'.length], _, _, _, _, _, rfl, ⟨G ++ [.tup [vN a, vN b]], ?_⟩, ?_, ?_, by simp [e5]⟩
      · have : S1.length < S'.length := glt hf
        rw [List.set_append_left _ _ this, e2, set_n0, List.append_assoc]; rfl
      · refine Paired.append (Tks.tup e3 (tup_app.trans (tup_set (get_app hf)))) (.cons ⟨S'.length, rfl, ?_⟩ .nil)
        rw [gs (by have := glt hf; omega)]
        exact get_n0
      · intro t ht
        rcases List.mem_append.mp ht with h | h
        · exact e4 t h
        · rw [List.mem_singleton] at h; subst h; exact ⟨q1, q2⟩)
    (fun ρ S' ⟨ts, vs, x5, x6, x7, x8, x9, e1, ⟨G, e2⟩, _⟩ => by rw [e2]; exact sameAt_app2 hcell)
  obtain ⟨G, hG⟩ := d3
  rw [enuI_length, List.length_map] at d6
  have lc : getL (S1 ++ [.lst []]) (.ref S.length) = some (cs.map .int) := getL_ref (get_app hcell)
  refine ⟨[Ob.lst (cs.map .int), Ob.tup L8, .lst vs] ++ G ++ [.tup [vN n, .ref S1.length]], S'.length, S1.length, n, ts, ?_, ?_, by omega, ?_, h2, h60, d6⟩
  · subst d2
    simp only [i__law_tasks, mk1, List.replicate]
    simp only [x_seq, x_asg, x_sl, x_var, List.getElem?_cons_zero, List.getElem?_cons_succ, R.bind_ok, x_noPart, x_part, x_c, hv, cut63 cs hl, R.toO_ok, x_tgName, List.set, O.seq_nx, x_cb, x_cons, x_nil, c1, x_op, x_tup, c2, c3, c4, c5, c6, c7]
    have e1 : S ++ [Ob.lst (cs.map .int)] ++ [Ob.tup [.int 2, .int 3, .int 5, .int 9, .int 20, .int 60, .int 4, vN (max 2 (cs.length * 2 / 3))]] = S1 := by rw [hS1, hL8, List.append_assoc]; rfl
    have e2 : (S ++ [Ob.lst (cs.map Va.int)]).length = S.length + 1 := by simp
    rw [e1, e2]
    simp only [c8, R.toO_ok, x_tgName, List.set, O.seq_nx, x_seq, x_asg, x_lst, x_nil, R.bind_ok, x_for, x_itEnum, x_var, List.getElem?_cons_zero, List.getElem?_cons_succ, lc, d1, x_ret, x_tup, x_cons, x_val_rt]
    rw [hG, hS1]
    simp
  · have : S ++ ([Ob.lst (cs.map .int), Ob.tup L8, .lst vs] ++ G ++ [.tup [vN n, .ref S1.length]]) = S' ++ [.tup [vN n, .ref S1.length]] := by rw [hG, hS1]; simp
    rw [this]; exact get_n0
  · have : S ++ ([Ob.lst (cs.map .int), Ob.tup L8, .lst vs] ++ G ++ [.tup [vN n, .ref S1.length]]) = S' ++ [.tup [vN n, .ref S1.length]] := by rw [hG, hS1]; simp
    rw [this]
    exact TL.app ⟨⟨vs, by rw [hG]; exact get_n0, d4⟩, d5⟩
end IL

end
section
set_option linter.all false
set_option maxRecDepth 100000
set_option maxHeartbeats 1000000
namespace IL
open PySem L2
/-! ### came_from -/
/-- the other person of task t -/
def sec (ts : List (Nat × Nat)) (t p : Nat) : Nat := (ts.getD t (0, 0)).1 + (ts.getD t (0, 0)).2 - p
def cV : Option Nat → Va
  | none => .int (-1)
  | some t => vN t
abbrev Came := List (Nat × Option Nat)
def DC (es : Came) : Ob := .dic (es.map fun e => ((e.1 : Int), cV e.2))
def keys (es : Came) : List Nat := es.map (·.1)
theorem second_of_ok {S : Sto} {q a b x : Nat} (hq : S[q]? = some (.tup [vN a, vN b])) (hx : x ≤ a + b) : i_second_of [.ref q, vN x] S = .ok (vN (a + b - x)) S := by
  have c1 : fIx (.ref q) (.int 0) S = .ok (vN a) S := fIx_tup (k := 0) hq rfl
  have c2 : fIx (.ref q) (.int 1) S = .ok (vN b) S := fIx_tup (k := 1) hq rfl
  simp only [i_second_of, mk2, List.replicate]
  simp [c1, c2, vN]
  omega
theorem lkD_DC (es : Came) (k : Nat) : lkD (es.map fun e => ((e.1 : Int), cV e.2)) (k : Int) = (es.find? fun e => decide (e.1 = k)).map fun e => cV e.2 := by
  unfold lkD
  rw [List.find?_map]
  have : ((fun e : Int × Va => decide (e.1 = (k : Int))) ∘ fun e : Nat × Option Nat => ((e.1 : Int), cV e.2)) = fun e => decide (e.1 = k) := by
    funext e
    simp
    omega
  rw [this]
  cases es.find? fun e => decide (e.1 = k) <;> rfl
theorem find_keys (es : Came) (k : Nat) : (es.find? fun e => decide (e.1 = k)).isSome = decide (k ∈ keys es) := by
  by_cases h : k ∈ keys es
  · rw [decide_eq_true h, List.find?_isSome]
    obtain ⟨e, h1, h2⟩ := List.mem_map.mp h
    exact ⟨e, h1, by simp [h2]⟩
  · rw [decide_eq_false h]
    cases hf : es.find? fun e => decide (e.1 = k) with
    | none => rfl
    | some e =>
      have h1 := List.mem_of_find?_eq_some hf
      have h2 := List.find?_some hf
      simp at h2
      exact absurd (List.mem_map.mpr ⟨e, h1, h2⟩) h
theorem lk_isSome (es : Came) (k : Nat) : (lkD (es.map fun e => ((e.1 : Int), cV e.2)) (k : Int)).isSome = decide (k ∈ keys es) := by
  rw [lkD_DC, Option.isSome_map, find_keys]
theorem find_of {es : Came} {i k : Nat} {o : Option Nat} (nd : (keys es).Nodup) (h : es[i]? = some (k, o)) : es.find? (fun e => decide (e.1 = k)) = some (k, o) := by
  induction es generalizing i with
  | nil => simp at h
  | cons e es ih =>
    unfold keys at nd
    rw [List.map_cons, List.nodup_cons] at nd
    cases i with
    | zero => simp at h; subst h; simp
    | succ i =>
      rw [List.getElem?_cons_succ] at h
      have hne : e.1 ≠ k := fun z => nd.1 (by rw [z]; exact List.mem_map.mpr ⟨_, List.mem_of_getElem? h, rfl⟩)
      rw [List.find?_cons]
      simp [hne]
      exact ih nd.2 h
theorem getD_DC {S : Sto} {d : Nat} {es : Came} (h : S[d]? = some (DC es)) : getD S (.ref d) = some (es.map fun e => ((e.1 : Int), cV e.2)) := by simp [getD, h, DC]
theorem x_dget {ρ : Env} {S : Sto} {a b : IE} : iDGet a b ρ S = (a ρ S).bind fun x S1 => (b ρ S1).bind fun y S2 => match getD S2 x, y with
  | some es, .int k => match lkD es k with
    | some v => .ok v S2
    | none => .no
  | _, _ => .no := rfl
theorem x_din {ρ : Env} {S : Sto} {a b : IE} {neg : Bool} : iDIn neg a b ρ S = (a ρ S).bind fun y S1 => (b ρ S1).bind fun x S2 => match getD S2 x, y with
  | some es, .int k => .ok (.bl (if neg then !(lkD es k).isSome else (lkD es k).isSome)) S2
  | _, _ => .no := rfl
theorem x_dset {ρ : Env} {S : Sto} {d k e : IE} : sDSet d k e ρ S = (e ρ S).toO ρ fun v S1 => (d ρ S1).toO ρ fun x S2 => (k ρ S2).toO ρ fun y S3 => match x, y with
  | .ref n, .int i => match S3[n]? with
    | some (.dic es) => if es.length < 100000 then .nx ρ (S3.set n (.dic (putD es i v))) else .no
    | _ => .no
  | _, _ => .no := rfl
theorem putD_new {es : Came} {k : Nat} {o : Option Nat} (h : k ∉ keys es) : putD (es.map fun e => ((e.1 : Int), cV e.2)) (k : Int) (cV o) = (es ++ [(k, o)]).map fun e => ((e.1 : Int), cV e.2) := by
  unfold putD
  rw [if_neg]
  · rw [List.map_append]; rfl
  · intro z
    rw [List.any_eq_true] at z
    obtain ⟨e, h1, h2⟩ := z
    obtain ⟨e', h3, rfl⟩ := List.mem_map.mp h1
    simp at h2
    exact h (List.mem_map.mpr ⟨e', h3, by omega⟩)
/-- what came holds -/
structure CI (ts : List (Nat × Nat)) (sh bs : List Nat) (es : Came) : Prop where
  nd : (keys es).Nodup
  hd : ∃ r, es = bs.map (fun b => (b, none)) ++ r
  st : ∀ (i : Nat), bs.length ≤ i → ∀ p o, es[i]? = some (p, o) → ∃ t q j r, o = some t ∧ sh[t]? = some q ∧ j < i ∧ es[j]? = some (q, r) ∧ p = sec ts t q
/-- .. and is told to the end for j and tasks before i -/
def Cl1 (ts : List (Nat × Nat)) (sh : List Nat) (es : Came) (p i : Nat) : Prop := ∀ t, t < i → sh[t]? = some p → sec ts t p ∈ keys es
theorem keys_snoc (es : Came) (k : Nat) (o : Option Nat) : keys (es ++ [(k, o)]) = keys es ++ [k] := by unfold keys; rw [List.map_append]; rfl
theorem CI.snoc {ts : List (Nat × Nat)} {sh bs : List Nat} {es : Came} (h : CI ts sh bs es) {t q j : Nat} {r : Option Nat} (ht : sh[t]? = some q) (hj : es[j]? = some (q, r)) (hn : sec ts t q ∉ keys es) : CI ts sh bs (es ++ [(sec ts t q, some t)]) := by
  refine ⟨?_, ?_, ?_⟩
  · rw [keys_snoc]
    rw [List.nodup_append]
    exact ⟨h.nd, by simp, fun a ha b hb => by rw [List.mem_singleton] at hb; rintro rfl; exact hn (hb ▸ ha)⟩
  · obtain ⟨r', e⟩ := h.hd
    exact ⟨r' ++ [(sec ts t q, some t)], by rw [e, List.append_assoc]⟩
  · intro i hi p o e
    have hjl := (List.getElem?_eq_some_iff.mp hj).1
    by_cases hil : i < es.length
    · rw [List.getElem?_append_left hil] at e
      obtain ⟨t', q', j', r', e1, e2, e3, e4, e5⟩ := h.st i hi p o e
      exact ⟨t', q', j', r', e1, e2, e3, by rw [List.getElem?_append_left (by omega)]; exact e4, e5⟩
    · have hil2 : i = es.length := by
        have := (List.getElem?_eq_some_iff.mp e).1
        simp at this; omega
      subst hil2
      rw [List.getElem?_concat_length] at e
      cases e
      exact ⟨t, q, j, r, rfl, ht, hjl, by rw [List.getElem?_append_left hjl]; exact hj, rfl⟩
theorem Cl1.mono {ts : List (Nat × Nat)} {sh : List Nat} {es : Came} {p i k : Nat} {o : Option Nat} (h : Cl1 ts sh es p i) : Cl1 ts sh (es ++ [(k, o)]) p i := fun t ht e => by
  rw [keys_snoc]; exact List.mem_append_left _ (h t ht e)
/-- a sharing of the first tasks -/
def GP (ts : List (Nat × Nat)) (sh : List Nat) : Prop := ∀ (t x : Nat), sh[t]? = some x → ∃ a b, ts[t]? = some (a, b) ∧ (x = a ∨ x = b)
theorem GS.gp {ts : List (Nat × Nat)} {sh : List Nat} (h : GS ts sh) : GP ts sh := fun t x e => by
  have hl := Paired.len h
  have ht : t < ts.length := by rw [hl]; exact (List.getElem?_eq_some_iff.mp e).1
  have e1 : ts[t]? = some ts[t] := by simp [ht]
  obtain ⟨u, e2, e3⟩ := Paired.get h e1
  rw [e] at e2; cases e2
  exact ⟨_, _, e1, e3⟩
theorem sec_of {ts : List (Nat × Nat)} {t a b p : Nat} (h : ts[t]? = some (a, b)) : sec ts t p = a + b - p := by unfold sec; simp [List.getD, h]
theorem sec_lt {n : Nat} {ts : List (Nat × Nat)} {sh : List Nat} (hg : GT n ts) (hp : GP ts sh) {t p : Nat} (h : sh[t]? = some p) : sec ts t p < n ∧ p < n := by
  obtain ⟨a, b, e1, e2⟩ := hp t p h
  have := hg _ (List.mem_of_getElem? e1)
  rw [sec_of e1]
  simp at this
  omega
end IL

end
section
set_option linter.all false
set_option maxRecDepth 100000
set_option maxHeartbeats 1000000
namespace IL
open PySem L2
theorem nodup_len : ∀ {n : Nat} {met : List Nat}, met.Nodup → (∀ x ∈ met, x < n) → met.length ≤ n
  | 0, [], _, _ => Nat.le_refl _
  | 0, x :: met, _, hl => by have := hl x List.mem_cons_self; omega
  | n + 1, met, h, hl => by
    have h1 := nodup_len (n := n) (met := met.erase n) (h.erase n) fun x hx => by
      have h2 := (h.mem_erase_iff).mp hx
      have := hl x h2.2
      have := h2.1
      omega
    rw [List.length_erase] at h1
    split at h1 <;> omega
theorem fEq_NN {S : Sto} {x y : Nat} : fEq (vN x) (vN y) S = .ok (.bl (decide (x = y))) S := by
  show fEq (.int x) (.int y) S = _
  rw [fEq_ii]
  by_cases h : x = y
  · subst h; simp
  · rw [decide_eq_false h, decide_eq_false (by omega)]
theorem fLt_NN {S : Sto} {x y : Nat} : fLt (vN x) (vN y) S = .ok (.bl (decide (x < y))) S := by
  show R.ok (Va.bl (decide ((x : Int) < y))) S = _
  congr 2
  by_cases h : x < y
  · rw [decide_eq_true h, decide_eq_true (by omega)]
  · rw [decide_eq_false h, decide_eq_false (by omega)]
theorem dset_new {ρ : Env} {S : Sto} {d k e : IE} {a y : Nat} {o : Option Nat} {es : Came} (he : e ρ S = .ok (cV o) S) (hd : d ρ S = .ok (.ref a) S) (hk : k ρ S = .ok (vN y) S) (ha : S[a]? = some (DC es)) (hl : es.length < 1000) (hn : y ∉ keys es) : sDSet d k e ρ S = .nx ρ (S.set a (DC (es ++ [(y, o)]))) := by
  have ha' : S[a]? = some (.dic (es.map fun e => ((e.1 : Int), cV e.2))) := ha
  have d2 : (es.map fun e => ((e.1 : Int), cV e.2)).length < 100000 := by rw [List.length_map]; omega
  simp only [x_dset, he, hd, hk, R.toO_ok, vN, ha', d2, if_true]
  rw [putD_new hn]
  rfl
noncomputable abbrev cfIn : IS := (sIf (iAnd (iB (iOp fEq (iVar 9) (iVar 7))) (iB (iDIn true (iCall i_second_of (iCons (iOp fIx (iVar 0) (iVar 8)) (iCons (iVar 7) iNil))) (iVar 3)))) (sSeq (sDSet (iVar 3) (iCall i_second_of (iCons (iOp fIx (iVar 0) (iVar 8)) (iCons (iVar 7) iNil))) (iVar 8))
  (sExpr (iBM mAppend (iVar 5) (iCons (iCall i_second_of (iCons (iOp fIx (iVar 0) (iVar 8)) (iCons (iVar 7) iNil))) iNil)))) sNext)
/-- the store of came_from -/
def cfS (S : Sto) (es : Came) : Sto := S ++ [DC es, LN (keys es)]
section
variable {S : Sto} {es : Came} {o : Ob}
theorem cfS_0 : (cfS S es)[S.length]? = some (DC es) := get_n0
theorem cfS_1 : (cfS S es)[S.length + 1]? = some (LN (keys es)) := get_n1
theorem cfS_old {a : Nat} (h : S[a]? = some o) : (cfS S es)[a]? = some o := get_app h
end
theorem cf_one {S : Sto} {n p q r i x h at_ : Nat} {vs : List Va} {ts : List (Nat × Nat)} {sh bs : List Nat} {es : Came} {x4 : Option Va} (hp : S[p]? = some (.lst vs)) (ht : Tks S vs ts) (hg : GT n ts) (hgp : GP ts sh) (hi : sh[i]? = some x) (hn : n ≤ 60) (hk : ∀ y ∈ keys es, y < n) (ci : CI ts sh bs es) (hh : ∃ (j : Nat) (r : Option Nat), es[j]? = some (h, r)) (hc : Cl1 ts sh es h i) :
    ∃ es', cfIn [some (.ref p), some (.ref q), some (.ref r), some (.ref S.length), x4, some (.ref (S.length + 1)), some (vN at_), some (vN h), some (vN i), some (vN x)] (cfS S es) =
      .nx [some (.ref p), some (.ref q), some (.ref r), some (.ref S.length), x4, some (.ref (S.length + 1)), some (vN at_), some (vN h), some (vN i), some (vN x)] (cfS S es') ∧ CI ts sh bs es' ∧ (∃ r, es' = es ++ r) ∧ Cl1 ts sh es' h (i + 1) ∧ (∀ y ∈ keys es', y < n) := by
  have e1 : ∀ S', fEq (vN x) (vN h) S' = .ok (.bl (decide (x = h))) S' := fun S' => fEq_NN
  have fin : ∀ {es' : Came}, Cl1 ts sh es' h i → (x = h → sec ts i h ∈ keys es') → Cl1 ts sh es' h (i + 1) := fun h1 h2 t htl e => by
    by_cases hti : t = i
    · subst hti; rw [hi] at e; cases e; exact h2 rfl
    · exact h1 t (by omega) e
  by_cases hx : x = h
  · subst hx
    obtain ⟨a, b, g1, g2⟩ := hgp i x hi
    obtain ⟨v, g3, w, rfl, g4⟩ : ∃ v, vs[i]? = some v ∧ ∃ w, v = .ref w ∧ S[w]? = some (.tup [vN a, vN b]) := by
      have hl := Paired.len ht
      have hil : i < vs.length := by rw [hl]; exact (List.getElem?_eq_some_iff.mp g1).1
      have e2 : vs[i]? = some vs[i] := by simp [hil]
      obtain ⟨t', e3, w, e4, e5⟩ := Paired.get ht e2
      rw [g1] at e3; cases e3
      exact ⟨_, e2, w, e4, e5⟩
    have c1 : ∀ es', fIx (.ref p) (vN i) (cfS S es') = .ok (.ref w) (cfS S es') := fun es' => fIx_lst (cfS_old hp) g3
    have hs : sec ts i x = a + b - x := sec_of g1
    have c2 : ∀ T, i_second_of [.ref w, vN x] (S ++ T) = .ok (vN (sec ts i x)) (S ++ T) := fun T => by rw [hs]; exact second_of_ok (get_app g4) (by omega)
    have c2' : ∀ es', i_second_of [.ref w, vN x] (cfS S es') = .ok (vN (sec ts i x)) (cfS S es') := fun es' => c2 _
    obtain ⟨y, hy⟩ : ∃ y, y = sec ts i x := ⟨_, rfl⟩
    rw [← hy] at c2'
    have c3 := lk_isSome es y
    have e1' : ∀ S', fEq (vN x) (vN x) S' = .ok (.bl true) S' := fun S' => by rw [e1]; simp
    by_cases hm : y ∈ keys es
    · rw [decide_eq_true hm] at c3
      refine ⟨es, ?_, ci, ⟨[], by simp⟩, fin hc fun _ => by rw [← hy]; exact hm, hk⟩
      have c3' : (lkD (es.map fun e => ((e.1 : Int), cV e.2)) ((y : Nat) : Int)).isSome = true := c3
      simp only [cfIn, x_sif, x_and, x_B, x_op, x_var, List.getElem?_cons_succ, List.getElem?_cons_zero, R.bind_ok, e1', x_asB, if_true, x_din, x_call, x_cons, x_nil, c1, c2', getD_DC cfS_0]
      simp only [vN, c3', Bool.not_true, if_true, x_asB, R.bind_ok, R.toO_ok, Bool.false_eq_true, if_false, x_next]
    · rw [decide_eq_false hm] at c3
      obtain ⟨j, r', hj⟩ := hh
      have hyn : y < n := by rw [hy]; exact (sec_lt hg hgp hi).1
      have ci' := ci.snoc hi hj (by rw [← hy]; exact hm)
      rw [← hy] at ci'
      have hel : es.length ≤ n := by
        have := nodup_len ci.nd hk
        unfold keys at this; rwa [List.length_map] at this
      refine ⟨es ++ [(y, some i)], ?_, ci', ⟨_, rfl⟩, fin hc.mono fun _ => by rw [keys_snoc, ← hy]; simp, fun z hz => ?_⟩
      · have c3' : (lkD (es.map fun e => ((e.1 : Int), cV e.2)) ((y : Nat) : Int)).isSome = false := c3
        have d1 : (cfS S es)[S.length]? = some (.dic (es.map fun e => ((e.1 : Int), cV e.2))) := cfS_0
        have d4 : (cfS S es).set S.length (DC (es ++ [(y, some i)])) = S ++ [DC (es ++ [(y, some i)]), LN (keys es)] := set_n0
        have d5 : (S ++ [DC (es ++ [(y, some i)]), LN (keys es)])[S.length + 1]? = some (LN (keys es)) := get_n1
        have d6 : i_second_of [.ref w, vN x] (S ++ [DC (es ++ [(y, some i)]), LN (keys es)]) = .ok (vN y) (S ++ [DC (es ++ [(y, some i)]), LN (keys es)]) := by rw [hy]; exact c2 _
        have d7 : fIx (.ref p) (vN i) (S ++ [DC (es ++ [(y, some i)]), LN (keys es)]) = .ok (.ref w) (S ++ [DC (es ++ [(y, some i)]), LN (keys es)]) := fIx_lst (get_app hp) g3
        have d8 := mAppend_LN (x := y) d5 (by unfold keys; rw [List.length_map]; omega)
        have d9 : (S ++ [DC (es ++ [(y, some i)]), LN (keys es)]).set (S.length + 1) (LN (keys es ++ [y])) = cfS S (es ++ [(y, some i)]) := by rw [set_n1, ← keys_snoc]; rfl
        rw [d9] at d8
        simp only [cfIn, x_sif, x_and, x_B, x_op, x_var, List.getElem?_cons_succ, List.getElem?_cons_zero, R.bind_ok, e1', x_asB, if_true, x_din, x_call, x_cons, x_nil, c1, c2', getD_DC cfS_0]
        rw [show vN y = .int (y : Int) from rfl]
        simp only [c3', Bool.not_false, if_true, x_asB, R.bind_ok, R.toO_ok, x_seq]
        rw [dset_new (a := S.length) (y := y) (o := some i) (es := es) rfl rfl (by simp only [x_call, x_cons, x_nil, x_op, x_var, List.getElem?_cons_succ, List.getElem?_cons_zero, R.bind_ok, c1, c2']) d1 (by omega) hm, d4]
        simp only [O.seq_nx, x_expr, x_bm, x_var, List.getElem?_cons_succ, List.getElem?_cons_zero, R.bind_ok, getL_LN d5, x_cons, x_nil, x_call, x_op, d7, d6, d8, R.toO_ok]
      · rw [keys_snoc] at hz
        rcases List.mem_append.mp hz with z | z
        · exact hk _ z
        · rw [List.mem_singleton] at z; omega
  · refine ⟨es, ?_, ci, ⟨[], by simp⟩, fin hc fun z => absurd z hx, hk⟩
    simp only [cfIn, x_sif, x_and, x_B, x_op, x_var, List.getElem?_cons_succ, List.getElem?_cons_zero, R.bind_ok, e1, decide_eq_false hx, x_asB, Bool.false_eq_true, if_false, R.toO_ok, x_next]
end IL

end
section
set_option linter.all false
set_option maxRecDepth 100000
set_option maxHeartbeats 1000000
namespace IL
open PySem L2
theorem keys_app (a b : Came) : keys (a ++ b) = keys a ++ keys b := by unfold keys; rw [List.map_append]
theorem keys_len (a : Came) : (keys a).length = a.length := by unfold keys; rw [List.length_map]
theorem keys_get {a : Came} {i k : Nat} (h : (keys a)[i]? = some k) : ∃ o, a[i]? = some (k, o) := by
  unfold keys at h
  rw [List.getElem?_map] at h
  cases e : a[i]? with
  | none => rw [e] at h; cases h
  | some x => rw [e] at h; simp at h; exact ⟨x.2, by rw [← h]⟩
theorem Cl1.app {ts : List (Nat × Nat)} {sh : List Nat} {es r : Came} {p i : Nat} (h : Cl1 ts sh es p i) : Cl1 ts sh (es ++ r) p i := fun t ht e => by
  rw [keys_app]; exact List.mem_append_left _ (h t ht e)
/-- what stands between two turns -/
structure CW (ts : List (Nat × Nat)) (sh bs : List Nat) (n : Nat) (es : Came) (at_ : Nat) : Prop where
  ci : CI ts sh bs es
  le : at_ ≤ es.length
  lt : ∀ x ∈ keys es, x < n
  cl : ∀ j, j < at_ → ∀ k o, es[j]? = some (k, o) → Cl1 ts sh es k sh.length
theorem cf_turn {S : Sto} {n p q r h at_ : Nat} {vs : List Va} {ts : List (Nat × Nat)} {sh bs : List Nat} {es : Came} {o : Option Nat} {x4 x7 x8 x9 : Option Va} (hp : S[p]? = some (.lst vs)) (ht : Tks S vs ts) (hg : GT n ts) (hq : S[q]? = some (LN sh)) (hgp : GP ts sh) (hn : n ≤ 60) (cw : CW ts sh bs n es at_) (hh : es[at_]? = some (h, o)) :
    ∃ es' x8' x9', (sSeq (sAsg (iOp fIx (iVar 5) (iVar 6)) (tgName 7)) (sSeq (sAug 6 (iC (.int 1))) (sFor (itEnum (iVar 1)) (tgTupN 2 [(tgName 8), (tgName 9)]) cfIn)))
      [some (.ref p), some (.ref q), some (.ref r), some (.ref S.length), x4, some (.ref (S.length + 1)), some (vN at_), x7, x8, x9] (cfS S es) =
      .nx [some (.ref p), some (.ref q), some (.ref r), some (.ref S.length), x4, some (.ref (S.length + 1)), some (vN (at_ + 1)), some (vN h), x8', x9'] (cfS S es') ∧ CW ts sh bs n es' (at_ + 1) := by
  have c1 : fIx (.ref (S.length + 1)) (vN at_) (cfS S es) = .ok (vN h) (cfS S es) := fIx_lst cfS_1 (vN_get (by unfold keys; rw [List.getElem?_map, hh]; rfl))
  have c2 : vN (at_ + 1) = .int ((at_ : Int) + 1) := by show Va.int ((at_ + 1 : Nat) : Int) = _; congr 1
  have hq' := cfS_old (es := es) hq
  obtain ⟨ρ', S', f1, es', x8', x9', rfl, rfl, ci', ⟨rr, he⟩, hc', hk'⟩ := for_nx (chk := sameAt (cfS S es) (.ref q)) (tg := tgTupN 2 [(tgName 8), (tgName 9)]) (body := cfIn)
    (fun k ρ S' => ∃ es' x8' x9', ρ = [some (.ref p), some (.ref q), some (.ref r), some (.ref S.length), x4, some (.ref (S.length + 1)), some (vN (at_ + 1)), some (vN h), x8', x9'] ∧ S' = cfS S es' ∧ CI ts sh bs es' ∧ (∃ r, es' = es ++ r) ∧ Cl1 ts sh es' h k ∧ (∀ y ∈ keys es', y < n))
    (enuI 0 (sh.map vN)) [some (.ref p), some (.ref q), some (.ref r), some (.ref S.length), x4, some (.ref (S.length + 1)), some (vN (at_ + 1)), some (vN h), x8, x9] (cfS S es)
    ⟨es, x8, x9, rfl, rfl, cw.ci, ⟨[], by simp⟩, fun t h _ => by omega, cw.lt⟩
    (fun j it ρ S' e ⟨es1, y8, y9, e1, e2, ci1, ⟨r1, hr1⟩, hc1, hk1⟩ => by
      subst e1 e2
      obtain ⟨v, z1, rfl⟩ := enuI_get0 e
      obtain ⟨x, z2, rfl⟩ := map_get z1
      have hh1 : ∃ (j : Nat) (r : Option Nat), es1[j]? = some (h, r) := ⟨at_, o, by rw [hr1, List.getElem?_append_left (List.getElem?_eq_some_iff.mp hh).1]; exact hh⟩
      obtain ⟨es2, k1, k2, ⟨r2, k3⟩, k4, k5⟩ := cf_one (q := q) (r := r) (at_ := at_ + 1) (x4 := x4) hp ht hg hgp z2 hn hk1 ci1 hh1 hc1
      refine ⟨?_, _, _, rfl, _, _, k1, es2, _, _, rfl, rfl, k2, ⟨r1 ++ r2, by rw [k3, hr1, List.append_assoc]⟩, k4, k5⟩
      simp only [sameAt, hq', cfS_old hq, decide_true])
    (fun ρ S' ⟨es1, y8, y9, e1, e2, _⟩ => by subst e2; simp only [sameAt, hq', cfS_old hq, decide_true])
  rw [enuI_length, List.length_map] at hc'
  refine ⟨es', x8', x9', ?_, ci', ?_, hk', ?_⟩
  · have l1 : getL (cfS S es) (.ref q) = some (sh.map vN) := getL_LN hq'
    simp only [x_seq, x_asg, x_op, x_var, List.getElem?_cons_succ, List.getElem?_cons_zero, R.bind_ok, c1, R.toO_ok, x_tgName, List.set, O.seq_nx, x_aug]
    rw [show vN at_ = .int (at_ : Int) from rfl]
    simp only [x_c, R.toO_ok, O.seq_nx, ← c2]
    simp only [x_for, x_itEnum, x_var, List.getElem?_cons_succ, List.getElem?_cons_zero, R.bind_ok, l1, R.toO_ok]
    exact f1
  · rw [he, List.length_append]
    have := (List.getElem?_eq_some_iff.mp hh).1
    omega
  · intro j hj k o' e
    have hjl : j < es.length := by
      have := (List.getElem?_eq_some_iff.mp hh).1
      omega
    rw [he, List.getElem?_append_left hjl] at e
    by_cases hja : j = at_
    · subst hja
      rw [hh] at e; cases e
      exact hc'
    · rw [he]
      exact (cw.cl j (by omega) k o' e).app
/-- all that came_from tells -/
structure CF (ts : List (Nat × Nat)) (sh bs : List Nat) (n : Nat) (es : Came) : Prop where
  ci : CI ts sh bs es
  lt : ∀ x ∈ keys es, x < n
  cl : ∀ t k, sh[t]? = some k → k ∈ keys es → sec ts t k ∈ keys es
theorem came_from_ok {S : Sto} {n p q r : Nat} {vs : List Va} {ts : List (Nat × Nat)} {sh bs : List Nat} (hp : S[p]? = some (.lst vs)) (ht : Tks S vs ts) (hg : GT n ts) (hq : S[q]? = some (LN sh)) (hgp : GP ts sh) (hr : S[r]? = some (LN bs)) (hbn : bs.Nodup) (hbl : ∀ b ∈ bs, b < n) (hn : n ≤ 60) :
    ∃ es, i_came_from [.ref p, .ref q, .ref r] S = .ok (.ref S.length) (cfS S es) ∧ CF ts sh bs n es := by
  have hbl2 := nodup_len hbn hbl
  -- the beginnings
  obtain ⟨ρ', S', f1, y4, rfl, rfl⟩ := for_nx (chk := sameAt (S ++ [DC []]) (.ref r)) (tg := tgName 4) (body := sDSet (iVar 3) (iVar 4) (iUn fNeg (iC (.int 1))))
    (fun k ρ S' => ∃ y4, ρ = [some (.ref p), some (.ref q), some (.ref r), some (.ref S.length), y4, none, none, none, none, none] ∧ S' = S ++ [DC ((bs.take k).map fun b => (b, none))])
    ((bs.map vN).map .one) [some (.ref p), some (.ref q), some (.ref r), some (.ref S.length), none, none, none, none, none, none] (S ++ [DC []]) ⟨none, rfl, rfl⟩
    (fun j it ρ S' e ⟨y4, e1, e2⟩ => by
      subst e1 e2
      obtain ⟨v, z1, rfl⟩ := map_one_get e
      obtain ⟨x, z2, rfl⟩ := map_get z1
      have hjl := (List.getElem?_eq_some_iff.mp z2).1
      refine ⟨?_, _, _, rfl, _, _, ?_, some (vN x), rfl, rfl⟩
      · simp only [sameAt, get_app hr, decide_true]
      · have hx : x ∉ keys ((bs.take j).map fun b => (b, none)) := by
          unfold keys
          rw [List.map_map]
          intro z
          obtain ⟨y, z3, z4⟩ := List.mem_map.mp z
          have z5 : y = x := z4
          subst z5
          obtain ⟨i, z6⟩ := List.mem_iff_getElem?.mp z3
          have z7 := (List.getElem?_eq_some_iff.mp z6).1
          rw [List.length_take] at z7
          rw [List.getElem?_take] at z6
          split at z6
          · obtain ⟨z8, z9⟩ := List.getElem?_eq_some_iff.mp z6
            obtain ⟨z10, z11⟩ := List.getElem?_eq_some_iff.mp z2
            have := (List.getElem_inj hbn).mp (z9.trans z11.symm)
            omega
          · cases z6
        rw [dset_new (a := S.length) (y := x) (o := none) (es := (bs.take j).map fun b => (b, none)) rfl rfl rfl get_n0 (by rw [List.length_map, List.length_take]; omega) hx, set_n0]
        have : bs.take (j + 1) = bs.take j ++ [x] := by rw [List.take_succ, z2]; rfl
        rw [this, List.map_append]
        rfl)
    (fun ρ S' ⟨y4, e1, e2⟩ => by subst e2; simp only [sameAt, get_app hr, decide_true])
  rw [List.length_map, List.length_map, List.take_length] at f1
  obtain ⟨es0, hes0⟩ : ∃ es0 : Came, es0 = bs.map fun b => (b, none) := ⟨_, rfl⟩
  rw [← hes0] at f1
  have hk0 : keys es0 = bs := by rw [hes0]; unfold keys; rw [List.map_map]; exact List.map_id' _
  have cw0 : CW ts sh bs n es0 0 := by
    refine ⟨⟨by rw [hk0]; exact hbn, ⟨[], by rw [hes0]; simp⟩, fun i hi p o e => ?_⟩, Nat.zero_le _, by rw [hk0]; exact hbl, fun j h => by omega⟩
    have := (List.getElem?_eq_some_iff.mp e).1
    rw [hes0, List.length_map] at this; omega
  have l2 : fList [.ref r] (S ++ [DC es0]) = .ok (.ref (S.length + 1)) (cfS S es0) := by
    simp only [fList, getQ_lst (get_app hr)]
    unfold cfS
    rw [hk0, List.append_assoc, List.length_append]
    rfl
  -- the while
  have wh : ∃ ρ' es, sWhile (iB (iOp fLt (iVar 6) (iCB fLen (iCons (iVar 5) iNil)))) (sSeq (sAsg (iOp fIx (iVar 5) (iVar 6)) (tgName 7)) (sSeq (sAug 6 (iC (.int 1))) (sFor (itEnum (iVar 1)) (tgTupN 2 [(tgName 8), (tgName 9)]) cfIn)))
      [some (.ref p), some (.ref q), some (.ref r), some (.ref S.length), y4, some (.ref (S.length + 1)), some (vN 0), none, none, none] (cfS S es0) = .nx ρ' (cfS S es) ∧ ρ'[3]? = some (some (.ref S.length)) ∧ CF ts sh bs n es := by
    refine while_rule (G := fun o => ∃ ρ' es, o = .nx ρ' (cfS S es) ∧ ρ'[3]? = some (some (.ref S.length)) ∧ CF ts sh bs n es) (by rintro ⟨_, _, z, _⟩; cases z)
      (fun m ρ S' => ∃ es at_ x7 x8 x9, ρ = [some (.ref p), some (.ref q), some (.ref r), some (.ref S.length), y4, some (.ref (S.length + 1)), some (vN at_), x7, x8, x9] ∧ S' = cfS S es ∧ CW ts sh bs n es at_ ∧ m = n - at_)
      (fun m ρ S' ⟨es, at_, x7, x8, x9, e1, e2, cw, hm⟩ => ?_) (m := n) ⟨es0, 0, none, none, none, rfl, rfl, cw0, rfl⟩
    subst e1 e2
    have hel : es.length ≤ n := by have := nodup_len cw.ci.nd cw.lt; rwa [keys_len] at this
    have b1 : fLen [.ref (S.length + 1)] (cfS S es) = .ok (vN es.length) (cfS S es) := by
      simp only [fLen, getQ_lst (cfS_1 (S := S) (es := es)), List.length_map, keys_len]; rfl
    have b2 : ∀ S', fLt (vN at_) (vN es.length) S' = .ok (.bl (decide (at_ < es.length))) S' := fun S' => fLt_NN
    refine ⟨decide (at_ < es.length), cfS S es, ?_, fun hb => ?_, fun hb => ?_⟩
    · simp only [x_B, x_op, x_var, List.getElem?_cons_succ, List.getElem?_cons_zero, R.bind_ok, x_cb, x_cons, x_nil, b1, b2, x_asB]
    · have hb' := of_decide_eq_false hb
      refine ⟨_, es, rfl, rfl, cw.ci, cw.lt, fun t k e hk => ?_⟩
      obtain ⟨j, hj⟩ := List.mem_iff_getElem?.mp hk
      obtain ⟨o, ho⟩ := keys_get hj
      have hjl := (List.getElem?_eq_some_iff.mp ho).1
      exact cw.cl j (by omega) k o ho t ((List.getElem?_eq_some_iff.mp e).1) e
    · have hb' := of_decide_eq_true hb
      obtain ⟨h, o⟩ := es[at_]
      have hh : es[at_]? = some es[at_] := by simp [hb']
      obtain ⟨es', x8', x9', k1, k2⟩ := cf_turn (h := es[at_].1) (o := es[at_].2) (r := r) (x4 := y4) (x7 := x7) (x8 := x8) (x9 := x9) hp ht hg hq hgp hn cw hh
      rw [k1]
      exact ⟨n - (at_ + 1), by omega, es', at_ + 1, _, _, _, rfl, rfl, k2, rfl⟩
  obtain ⟨ρ', es, w1, w2, w3⟩ := wh
  refine ⟨es, ?_, w3⟩
  have w0 : Va.int 0 = vN 0 := rfl
  have hd : DC [] = Ob.dic [] := rfl
  have l0 : getL (S ++ [DC []]) (.ref r) = some (bs.map vN) := getL_LN (get_app hr)
  simp only [i_came_from, mk3, List.replicate]
  simp only [x_seq, x_asg, x_dnew, R.toO_ok, x_tgName, List.set, O.seq_nx, ← hd, x_for, x_itList, x_var, List.getElem?_cons_succ, List.getElem?_cons_zero, R.bind_ok, l0, f1, x_cb, x_cons, x_nil, l2, x_c, w0, w1, x_ret, w2, x_val_rt]
end IL

end
section
set_option linter.all false
set_option maxRecDepth 100000
set_option maxHeartbeats 1000000
namespace IL
open PySem L2
/-! ### chain_to -/
/-- whom a chain meets -/
def met (ts : List (Nat × Nat)) : Nat → List Nat → List Nat
  | b, [] => [b]
  | b, t :: ch => b :: met ts (sec ts t b) ch
/-- a chain of tasks, each done by the one it meets -/
def okW (ts : List (Nat × Nat)) (sh : List Nat) : Nat → List Nat → Prop
  | _, [] => True
  | b, t :: ch => sh[t]? = some b ∧ okW ts sh (sec ts t b) ch
/-- where it ends -/
def ends (ts : List (Nat × Nat)) : Nat → List Nat → Nat
  | b, [] => b
  | b, t :: ch => ends ts (sec ts t b) ch
theorem met_len (ts : List (Nat × Nat)) : ∀ (ch : List Nat) (b : Nat), (met ts b ch).length = ch.length + 1
  | [], b => rfl
  | t :: ch, b => by simp [met, met_len ts ch]
theorem met_head (ts : List (Nat × Nat)) (ch : List Nat) (b : Nat) : ∃ r, met ts b ch = b :: r := by cases ch <;> exact ⟨_, rfl⟩
theorem find_DC {es : Came} (nd : (keys es).Nodup) {i k : Nat} {o : Option Nat} (h : es[i]? = some (k, o)) : lkD (es.map fun e => ((e.1 : Int), cV e.2)) (k : Int) = some (cV o) := by
  rw [lkD_DC, find_of nd h]; rfl
theorem fGe_cV {S : Sto} {o : Option Nat} : fGe (cV o) (.int 0) S = .ok (.bl o.isSome) S := by
  cases o with
  | none => rfl
  | some t =>
    show R.ok (Va.bl (decide ((t : Int) ≥ 0))) S = _
    simp
theorem sec_back {ts : List (Nat × Nat)} {sh : List Nat} (hgp : GP ts sh) {t q : Nat} (h : sh[t]? = some q) : sec ts t (sec ts t q) = q := by
  obtain ⟨a, b, g1, g2⟩ := hgp t q h
  rw [sec_of g1, sec_of g1]; omega
/-- what stands while the chain is told backwards: x at place i -/
structure CB (ts : List (Nat × Nat)) (sh : List Nat) (es : Came) (last : Nat) (x i : Nat) (ch : List Nat) : Prop where
  at_ : ∃ o, es[i]? = some (x, o)
  ok : okW ts sh x ch
  en : ends ts x ch = last
  ix : ∀ y ∈ met ts x ch, ∃ (j : Nat) (o : Option Nat), i ≤ j ∧ es[j]? = some (y, o)
  nd : (met ts x ch).Nodup
  ln : ch.length + i < es.length
theorem chain_to_ok {S : Sto} {p d x i : Nat} {o : Option Nat} {vs : List Va} {ts : List (Nat × Nat)} {sh bs : List Nat} {es : Came} (hp : S[p]? = some (.lst vs)) (ht : Tks S vs ts) (hd : S[d]? = some (DC es)) (hgp : GP ts sh) (ci : CI ts sh bs es) (hx : es[i]? = some (x, o)) (hn : es.length ≤ 60) :
    ∃ ch b, i_chain_to [.ref p, .ref d, vN x] S = .ok (.ref (S.length + 1)) (S ++ [LN ch.reverse] ++ [LN ch]) ∧ b ∈ bs ∧ okW ts sh b ch ∧ ends ts b ch = x ∧ (met ts b ch).Nodup ∧ ch.length < es.length := by
  have hbs : ∀ i k, es[i]? = some (k, none) → k ∈ bs := fun i k h => by
    obtain ⟨r, hr⟩ := ci.hd
    by_cases hi : i < bs.length
    · rw [hr, List.getElem?_append_left (by rw [List.length_map]; exact hi)] at h
      obtain ⟨y, h1, h2⟩ := map_get h
      cases h2
      exact List.mem_of_getElem? h1
    · obtain ⟨t, q, j, r', e1, _⟩ := ci.st i (by omega) k none h
      cases e1
  have wh : ∃ ρ' ch b, sWhile (iB (iOp fGe (iDGet (iVar 1) (iVar 2)) (iC (.int 0)))) (sSeq (sExpr (iBM mAppend (iVar 3) (iCons (iDGet (iVar 1) (iVar 2)) iNil))) (sAsg (iCall i_second_of (iCons (iOp fIx (iVar 0) (iDGet (iVar 1) (iVar 2))) (iCons (iVar 2) iNil))) (tgName 2)))
      [some (.ref p), some (.ref d), some (vN x), some (.ref S.length)] (S ++ [LN []]) = .nx ρ' (S ++ [LN ch.reverse]) ∧ ρ'[3]? = some (some (.ref S.length)) ∧ b ∈ bs ∧ okW ts sh b ch ∧ ends ts b ch = x ∧ (met ts b ch).Nodup ∧ ch.length < es.length := by
    refine while_rule (G := fun oo => ∃ ρ' ch b, oo = .nx ρ' (S ++ [LN ch.reverse]) ∧ ρ'[3]? = some (some (.ref S.length)) ∧ b ∈ bs ∧ okW ts sh b ch ∧ ends ts b ch = x ∧ (met ts b ch).Nodup ∧ ch.length < es.length) (by rintro ⟨_, _, _, z, _⟩; cases z)
      (fun m ρ S' => ∃ y ch, ρ = [some (.ref p), some (.ref d), some (vN y), some (.ref S.length)] ∧ S' = S ++ [LN ch.reverse] ∧ CB ts sh es x y m ch)
      (fun m ρ S' ⟨y, ch, e1, e2, cb⟩ => ?_) (m := i) ⟨x, [], rfl, rfl, ⟨⟨o, hx⟩, trivial, rfl, fun y hy => ?_, by simp [met], ?_⟩⟩
    · subst e1 e2
      obtain ⟨o', ho⟩ := cb.at_
      have hl := find_DC ci.nd ho
      have gd : ∀ T, getD (S ++ T) (.ref d) = some (es.map fun e => ((e.1 : Int), cV e.2)) := fun T => getD_DC (get_app hd)
      have b0 : ∀ (T : Sto) (x3 : Option Va), iDGet (iVar 1) (iVar 2) [some (.ref p), some (.ref d), some (vN y), x3] (S ++ T) = .ok (cV o') (S ++ T) := fun T x3 => by
        simp only [x_dget, x_var, List.getElem?_cons_succ, List.getElem?_cons_zero, R.bind_ok, gd]
        simp only [vN, hl]
      refine ⟨o'.isSome, S ++ [LN ch.reverse], ?_, fun hb => ?_, fun hb => ?_⟩
      · simp only [x_B, x_op, b0, R.bind_ok, x_c, fGe_cV, x_asB]
      · cases o' with
        | none => exact ⟨_, ch, y, rfl, rfl, hbs _ _ ho, cb.ok, cb.en, cb.nd, by have := cb.ln; omega⟩
        | some t => cases hb
      · cases o' with
        | none => cases hb
        | some t =>
          have hm : ¬ m < bs.length := fun z => by
            obtain ⟨r, hr⟩ := ci.hd
            rw [hr, List.getElem?_append_left (by rw [List.length_map]; exact z)] at ho
            obtain ⟨y', h1, h2⟩ := map_get ho
            cases h2
          obtain ⟨t', q, j, r', z1, z2, z3, z4, z5⟩ := ci.st m (by omega) y _ ho
          cases z1
          obtain ⟨a, b, g1, g2⟩ := hgp t q z2
          obtain ⟨v, g3, w, rfl, g4⟩ : ∃ v, vs[t]? = some v ∧ ∃ w, v = .ref w ∧ S[w]? = some (.tup [vN a, vN b]) := by
            have hl := Paired.len ht
            have hil : t < vs.length := by rw [hl]; exact (List.getElem?_eq_some_iff.mp g1).1
            have e2 : vs[t]? = some vs[t] := by simp [hil]
            obtain ⟨t', e3, w, e4, e5⟩ := Paired.get ht e2
            rw [g1] at e3; cases e3
            exact ⟨_, e2, w, e4, e5⟩
          have hb2 : sec ts t y = q := by rw [z5]; exact sec_back hgp z2
          have hyl : y ≤ a + b := by rw [z5, sec_of g1]; omega
          have m1 : (S ++ [LN ch.reverse])[S.length]? = some (LN ch.reverse) := get_n0
          have m2 := mAppend_LN (x := t) m1 (by rw [List.length_reverse]; have := cb.ln; omega)
          rw [set_n0, ← List.reverse_cons] at m2
          have m3 : fIx (.ref p) (cV (some t)) (S ++ [LN (t :: ch).reverse]) = .ok (.ref w) (S ++ [LN (t :: ch).reverse]) := fIx_lst (get_app hp) g3
          have m4 : i_second_of [.ref w, vN y] (S ++ [LN (t :: ch).reverse]) = .ok (vN q) (S ++ [LN (t :: ch).reverse]) := by rw [← hb2, sec_of g1]; exact second_of_ok (get_app g4) hyl
          have m5 : mAppend (.ref S.length) [cV (some t)] (S ++ [LN ch.reverse]) = .ok .non (S ++ [LN (t :: ch).reverse]) := m2
          simp only [x_seq, x_expr, x_bm, x_var, List.getElem?_cons_succ, List.getElem?_cons_zero, R.bind_ok, getL_LN m1, x_cons, x_nil, b0, m5, R.toO_ok, O.seq_nx, x_asg, x_call, x_op, m3, m4, x_tgName, List.set]
          refine ⟨j, z3, q, t :: ch, rfl, rfl, ⟨⟨r', z4⟩, ⟨z2, by rw [← z5]; exact cb.ok⟩, by show ends ts (sec ts t q) ch = x; rw [← z5]; exact cb.en, fun u hu => ?_, ?_, ?_⟩⟩
          · have hu' : u ∈ q :: met ts (sec ts t q) ch := hu
            rw [← z5] at hu'
            rcases List.mem_cons.mp hu' with rfl | hu'
            · exact ⟨j, r', Nat.le_refl _, z4⟩
            · obtain ⟨j', o', h1, h2⟩ := cb.ix u hu'
              exact ⟨j', o', by omega, h2⟩
          · show (q :: met ts (sec ts t q) ch).Nodup
            rw [← z5, List.nodup_cons]
            refine ⟨fun hq => ?_, cb.nd⟩
            obtain ⟨j', o', h1, h2⟩ := cb.ix q hq
            have k1 : (keys es)[j]? = some q := by unfold keys; rw [List.getElem?_map, z4]; rfl
            have k2 : (keys es)[j']? = some q := by unfold keys; rw [List.getElem?_map, h2]; rfl
            obtain ⟨k3, k4⟩ := List.getElem?_eq_some_iff.mp k1
            obtain ⟨k5, k6⟩ := List.getElem?_eq_some_iff.mp k2
            have := (List.getElem_inj ci.nd).mp (k4.trans k6.symm)
            omega
          · have := cb.ln
            rw [List.length_cons]; omega
    · simp [met] at hy
      subst hy
      exact ⟨i, o, Nat.le_refl _, hx⟩
    · have := (List.getElem?_eq_some_iff.mp hx).1
      simpa using this
  obtain ⟨ρ', ch, b, w1, w2, w3, w4, w5, w6, w7⟩ := wh
  refine ⟨ch, b, ?_, w3, w4, w5, w6, w7⟩
  have l1 : getL (S ++ [LN ch.reverse]) (.ref S.length) = some (ch.reverse.map vN) := getL_LN get_n0
  have l2 : Ob.lst (ch.reverse.map vN).reverse = LN ch := by rw [← List.map_reverse, List.reverse_reverse]; rfl
  have l3 : Ob.lst [] = LN [] := rfl
  have l4 : (S ++ [LN ch.reverse]).length = S.length + 1 := by simp
  simp only [i_chain_to, mk3, List.replicate]
  simp only [x_seq, x_asg, x_lst, x_nil, R.bind_ok, R.toO_ok, x_tgName, List.set, O.seq_nx, l3, w1, x_ret, x_rev, x_var, w2, l1, l2, l4, x_val_rt]
end IL

end
section
set_option linter.all false
set_option maxRecDepth 100000
set_option maxHeartbeats 1000000
namespace IL
open PySem L2
def Px (S S' : Sto) : Prop := ∃ T, S' = S ++ T
theorem Px.refl (S : Sto) : Px S S := ⟨[], by simp⟩
theorem Px.app {S S' T : Sto} (h : Px S S') : Px S (S' ++ T) := by obtain ⟨U, rfl⟩ := h; exact ⟨U ++ T, by simp⟩
theorem Px.trans {S S1 S2 : Sto} (a : Px S S1) (b : Px S1 S2) : Px S S2 := by obtain ⟨U, rfl⟩ := b; exact a.app
theorem Px.get {S S' : Sto} (h : Px S S') {a : Nat} {o : Ob} (e : S[a]? = some o) : S'[a]? = some o := by obtain ⟨U, rfl⟩ := h; exact get_app e
theorem Px.tks {S S' : Sto} (h : Px S S') {vs : List Va} {ts : List (Nat × Nat)} (e : Tks S vs ts) : Tks S' vs ts := by obtain ⟨U, rfl⟩ := h; exact e.app
theorem Px.tl {S S' : Sto} (h : Px S S') {p n : Nat} {ts : List (Nat × Nat)} (e : TL S p n ts) : TL S' p n ts := by obtain ⟨U, rfl⟩ := h; exact e.app
theorem Px.le {S S' : Sto} (h : Px S S') : S.length ≤ S'.length := by obtain ⟨U, rfl⟩ := h; simp
theorem cfS_px {S : Sto} {es : Came} : Px S (cfS S es) := ⟨_, rfl⟩
/-! sorted -/
theorem srt_natS (ns : List Nat) : ∃ os : List Nat, srt (ns.map fun (x : Nat) => (x : Int)) = os.map (fun (x : Nat) => (x : Int)) ∧ os.Perm ns ∧ os.Pairwise (· ≤ ·) := by
  have e0 : ((srt (ns.map fun (x : Nat) => (x : Int))).map Int.toNat).map (fun (x : Nat) => (x : Int)) = srt (ns.map fun (x : Nat) => (x : Int)) := by
    rw [List.map_map]
    have : ∀ z ∈ srt (ns.map fun (x : Nat) => (x : Int)), ((fun (x : Nat) => (x : Int)) ∘ Int.toNat) z = z := fun z hz => by
      have := (srt_perm _).subset hz
      obtain ⟨x, _, rfl⟩ := List.mem_map.mp this
      simp
    rw [List.map_congr_left this]; simp
  refine ⟨(srt (ns.map fun (x : Nat) => (x : Int))).map Int.toNat, e0.symm, ?_, ?_⟩
  · have h := (srt_perm (ns.map fun (x : Nat) => (x : Int))).map Int.toNat
    rw [List.map_map] at h
    have e : ns.map (Int.toNat ∘ fun (x : Nat) => (x : Int)) = ns := by
      rw [List.map_congr_left (g := id) fun x _ => by simp]; simp
    rwa [e] at h
  · have h := srt_le (ns.map fun (x : Nat) => (x : Int))
    rw [← e0, List.pairwise_map] at h
    exact h.imp fun h => by omega
theorem lt_of_le_nd {os : List Nat} (h : os.Pairwise (· ≤ ·)) (n : os.Nodup) : os.Pairwise (· < ·) := by
  have n' : os.Pairwise (· ≠ ·) := n
  exact (h.and n').imp fun ⟨a, b⟩ => by omega
theorem fSortedD_ok {S : Sto} {d : Nat} {es : Came} (h : S[d]? = some (DC es)) (hl : es.length < 64) (nd : (keys es).Nodup) : ∃ so, fSortedD [.ref d] S = .ok (.ref S.length) (S ++ [LN so]) ∧ so.Perm (keys es) ∧ so.Pairwise (· < ·) := by
  obtain ⟨so, h1, h2, h3⟩ := srt_natS (keys es)
  have h' : S[d]? = some (.dic (es.map fun e => ((e.1 : Int), cV e.2))) := h
  refine ⟨so, ?_, h2, lt_of_le_nd h3 (h2.nodup_iff.mpr nd)⟩
  have e : (es.map fun e => ((e.1 : Int), cV e.2)).map (·.1) = (keys es).map fun (x : Nat) => (x : Int) := by unfold keys; rw [List.map_map, List.map_map]; rfl
  have e2 : ((keys es).map fun (x : Nat) => (x : Int)).length < 64 := by rw [List.length_map, keys_len]; exact hl
  simp only [fSortedD, keysOf, h', e, e2, if_true, h1]
  unfold LN
  rw [map_vN]
/-! objects -/
theorem init1 {S : Sto} {q : Nat} {xs : List Va} {c fld : Str} (hc : c ∈ clsL) (hq : S[q]? = some (.lst xs)) : mkFn 2 2 (sFldSet (iVar 0) fld (iCB fList (iCons (iVar 1) iNil))) [.ref S.length, .ref q] (S ++ [.obj c []]) = .ok .non (S ++ [.obj c [(fld, .ref (S.length + 1))], .lst xs]) := by
  have h1 : getQ (S ++ [Ob.obj c []]) (.ref q) = some xs := getQ_lst (get_app hq)
  have h2 : (S ++ [Ob.obj c []] ++ [Ob.lst xs])[S.length]? = some (.obj c []) := get_app get_n0
  have h3 : (S ++ [Ob.obj c []]).length = S.length + 1 := by simp
  have h4 : c ∈ clsL ∧ ([] : List (Str × Va)).length < 100 := ⟨hc, by decide⟩
  simp only [mk2, List.replicate, sFldSet, x_cb, x_cons, x_nil, x_var, List.getElem?_cons_succ, List.getElem?_cons_zero, R.bind_ok, fList, h1, R.toO_ok, h2, h3, h4, and_self, if_true, x_val_nx]
  rw [List.append_assoc]
  show R.ok Va.non ((S ++ (Ob.obj c [] :: [Ob.lst xs])).set S.length _) = _
  rw [set_n0]
  rfl
theorem make1 {S : Sto} {q : Nat} {xs : List Va} {c fld : Str} {ρ : Env} {a : IE} {S0 : Sto} (hc : c ∈ clsL) (ha : a ρ S0 = .ok (.ref q) S) (hq : S[q]? = some (.lst xs)) :
    iMake c (mkFn 2 2 (sFldSet (iVar 0) fld (iCB fList (iCons (iVar 1) iNil)))) (iCons a iNil) ρ S0 = .ok (.ref S.length) (S ++ [.obj c [(fld, .ref (S.length + 1))], .lst xs]) := by
  simp only [iMake, x_cons, ha, R.bind_ok, x_nil, init1 hc hq]
/-! ### passed -/
def PassR (S : Sto) (k n : Nat) (ts : List (Nat × Nat)) (sh : List Nat) (one other : Nat) : Prop :=
  (∃ ch, S[k]? = some (.obj "Chain" [("tasks", .ref (k + 1))]) ∧ S[k + 1]? = some (LN ch) ∧ okW ts sh one ch ∧ ends ts one ch = other ∧ (met ts one ch).Nodup ∧ ch.length < 60) ∨
  (∃ so, S[k]? = some (.obj "Side" [("some", .ref (k + 1))]) ∧ S[k + 1]? = some (LN so) ∧ so.Pairwise (· < ·) ∧ (∀ x ∈ so, x < n) ∧ one ∈ so ∧ other ∉ so ∧ ∀ t k, sh[t]? = some k → k ∈ so → sec ts t k ∈ so)
theorem passed_ok {S : Sto} {n p q one other : Nat} {ts : List (Nat × Nat)} {sh : List Nat} (tl : TL S p n ts) (hq : S[q]? = some (LN sh)) (hs : GS ts sh) (h1 : one < n) (h2 : other < n) (hne : one ≠ other) (hn : n ≤ 60) (hl : ts.length ≤ 900) :
    ∃ k T, i_passed [vN n, .ref p, .ref q, vN one, vN other] S = .ok (.ref k) (S ++ T) ∧ S.length ≤ k ∧ PassR (S ++ T) k n ts sh one other := by
  obtain ⟨vs, hp, ht⟩ := tl.ex
  obtain ⟨T1, c1⟩ := check_tasks_ok hp ht tl.gt (by omega) hn (by omega)
  obtain ⟨T2, c2⟩ := check_sharing_ok (get_app (T := T1) hp) ht.app (get_app hq) hs (by omega)
  obtain ⟨S3, hS3⟩ : ∃ S3, S3 = S ++ T1 ++ T2 ++ [Ob.tup [vN one, vN other]] := ⟨_, rfl⟩
  have p3 : Px S S3 := by rw [hS3]; exact (Px.refl S).app.app.app
  have t3 : S3[(S ++ T1 ++ T2).length]? = some (.tup [vN one, vN other]) := by rw [hS3]; exact get_n0
  obtain ⟨w3, hw3⟩ : ∃ w3, w3 = (S ++ T1 ++ T2).length := ⟨_, rfl⟩
  rw [← hw3] at t3
  have n1 : ∀ x S', i_is_number [vN x, .int 0] S' = .ok (.bl true) S' := fun x S' => by rw [show vN x = .int (x : Int) from rfl, is_number_int]; simp
  have n2 : ∀ x S', x < n → fGe (vN x) (vN n) S' = .ok (.bl false) S' := fun x S' h => by
    show R.ok (Va.bl (decide ((x : Int) ≥ n))) S' = _
    rw [decide_eq_false (by omega)]
  have n3 : fEq (vN one) (vN other) S3 = .ok (.bl false) S3 := by rw [fEq_NN, decide_eq_false hne]
  have s3 : sameAt S3 (.ref w3) S3 = true := sameAt_self
  obtain ⟨S4, hS4⟩ : ∃ S4, S4 = S3 ++ [LN [one]] := ⟨_, rfl⟩
  have hS4' : S4 = S3 ++ [Ob.lst [vN one]] := hS4
  have p4 : Px S S4 := by rw [hS4]; exact p3.app
  have r4 : S4[S3.length]? = some (LN [one]) := by rw [hS4]; exact get_n0
  obtain ⟨es, e1, cf⟩ := came_from_ok (p4.get hp) (p4.tks ht) tl.gt (p4.get hq) hs.gp r4 (by simp) (fun b hb => by simp at hb; omega) hn
  have hel : es.length ≤ n := by have := nodup_len cf.ci.nd cf.lt; rwa [keys_len] at this
  have hlk := lk_isSome es other
  have hone : ∃ r, es = (one, none) :: r := by obtain ⟨r, hr⟩ := cf.ci.hd; exact ⟨r, hr⟩
  have gd : getD (cfS S4 es) (.ref S4.length) = some (es.map fun e => ((e.1 : Int), cV e.2)) := getD_DC cfS_0
  have step : ∀ (v : Va) (S' : Sto), (sSeq (sIf (iB (iDIn true (iVar 4) (iVar 6))) (sRet (iMake "Side" i_Side_init (iCons (iCB fSortedD (iCons (iVar 6) iNil)) iNil))) sNext)
    (sRet (iMake "Chain" i_Chain_init (iCons (iCall i_chain_to (iCons (iVar 1) (iCons (iVar 6) (iCons (iVar 4) iNil)))) iNil)))) [some (vN n), some (.ref p), some (.ref q), some (vN one), some (vN other), some (vN other), some (.ref S4.length)] (cfS S4 es) = .rt v S' →
      i_passed [vN n, .ref p, .ref q, vN one, vN other] S = .ok v S' := fun v S' h => by
    simp only [i_passed, mk5, List.replicate]
    rw [x_seq] at h
    simp only [x_seq, x_expr, x_call, x_cons, x_nil, x_var, List.getElem?_cons_succ, List.getElem?_cons_zero, R.bind_ok, c1, R.toO_ok, O.seq_nx, c2, x_for, x_itTup, x_tup, ← hw3, ← hS3, getT_ref t3, List.map_cons, List.map_nil, forL, s3, if_true, x_tgName, List.set, x_sif, x_or, x_not, x_B, n1, x_asB, Bool.not_true, Bool.false_eq_true, if_false, x_op, n2 _ _ h1, n2 _ _ h2, x_next, n3, x_c, x_asg, x_lst, ← hS4', e1] at h ⊢
    rw [h]; rfl
  by_cases hm : other ∈ keys es
  · rw [decide_eq_true hm] at hlk
    obtain ⟨i, hi⟩ := List.mem_iff_getElem?.mp hm
    obtain ⟨o, ho⟩ := keys_get hi
    obtain ⟨ch, b, g1, g2, g3, g4, g5, g6⟩ := chain_to_ok (S := cfS S4 es) (d := S4.length) (cfS_px.get (p4.get hp)) (cfS_px.tks (p4.tks ht)) cfS_0 hs.gp cf.ci ho (by omega)
    have hb : b = one := by simpa using g2
    subst hb
    obtain ⟨S6, hS6⟩ : ∃ S6, S6 = cfS S4 es ++ [LN ch.reverse] ++ [LN ch] := ⟨_, rfl⟩
    rw [← hS6] at g1
    have q6 : S6[(cfS S4 es).length + 1]? = some (.lst (ch.map vN)) := by
      rw [hS6, show (cfS S4 es).length + 1 = (cfS S4 es ++ [LN ch.reverse]).length by simp]; exact get_n0
    have p6 : Px S S6 := by rw [hS6]; exact (p4.trans cfS_px).app.app
    have k1 := make1 (c := "Chain") (fld := "tasks") (ρ := [some (vN n), some (.ref p), some (.ref q), some (vN b), some (vN other), some (vN other), some (.ref S4.length)]) (S0 := cfS S4 es) (a := iCall i_chain_to (iCons (iVar 1) (iCons (iVar 6) (iCons (iVar 4) iNil)))) (by decide +kernel) (by simp only [x_call, x_cons, x_nil, x_var, List.getElem?_cons_succ, List.getElem?_cons_zero, R.bind_ok, g1]) q6
    obtain ⟨U, hU⟩ := p6
    refine ⟨S6.length, U ++ [.obj "Chain" [("tasks", .ref (S6.length + 1))], .lst (ch.map vN)], ?_, by rw [hU]; simp, .inl ⟨ch, ?_, ?_, g3, g4, g5, by omega⟩⟩
    · rw [← List.append_assoc, ← hU]
      refine step _ _ ?_
      simp only [x_seq, x_sif, x_B, x_din, x_var, List.getElem?_cons_succ, List.getElem?_cons_zero, R.bind_ok, gd]
      rw [show vN other = .int (other : Int) from rfl] at k1 ⊢
      simp only [hlk, Bool.not_true, if_true, R.bind_ok, x_asB, R.toO_ok, Bool.false_eq_true, if_false, x_next, O.seq_nx, x_ret]
      have k1' : iMake "Chain" i_Chain_init (iCons (iCall i_chain_to (iCons (iVar 1) (iCons (iVar 6) (iCons (iVar 4) iNil)))) iNil) _ _ = _ := k1
      rw [k1']; rfl
    · rw [← List.append_assoc, ← hU]; exact get_n0
    · rw [← List.append_assoc, ← hU]; exact get_n1
  · rw [decide_eq_false hm] at hlk
    obtain ⟨so, g1, g2, g3⟩ := fSortedD_ok (S := cfS S4 es) cfS_0 (by omega) cf.ci.nd
    obtain ⟨S6, hS6⟩ : ∃ S6, S6 = cfS S4 es ++ [LN so] := ⟨_, rfl⟩
    rw [← hS6] at g1
    have q6 : S6[(cfS S4 es).length]? = some (.lst (so.map vN)) := by rw [hS6]; exact get_n0
    have p6 : Px S S6 := by rw [hS6]; exact (p4.trans cfS_px).app
    have k1 := make1 (c := "Side") (fld := "some") (ρ := [some (vN n), some (.ref p), some (.ref q), some (vN one), some (vN other), some (vN other), some (.ref S4.length)]) (S0 := cfS S4 es) (a := iCB fSortedD (iCons (iVar 6) iNil)) (by decide +kernel) (by simp only [x_cb, x_cons, x_nil, x_var, List.getElem?_cons_succ, List.getElem?_cons_zero, R.bind_ok, g1]) q6
    obtain ⟨U, hU⟩ := p6
    have mem : ∀ x, x ∈ so ↔ x ∈ keys es := fun x => g2.mem_iff
    refine ⟨S6.length, U ++ [.obj "Side" [("some", .ref (S6.length + 1))], .lst (so.map vN)], ?_, by rw [hU]; simp, .inr ⟨so, ?_, ?_, g3, fun x hx => cf.lt x ((mem x).mp hx), ?_, fun z => hm ((mem _).mp z), fun t k e hk => (mem _).mpr (cf.cl t k e ((mem _).mp hk))⟩⟩
    · rw [← List.append_assoc, ← hU]
      refine step _ _ ?_
      simp only [x_seq, x_sif, x_B, x_din, x_var, List.getElem?_cons_succ, List.getElem?_cons_zero, R.bind_ok, gd]
      rw [show vN other = .int (other : Int) from rfl] at k1 ⊢
      simp only [hlk, Bool.not_false, if_true, R.bind_ok, x_asB, R.toO_ok, x_ret]
      have k1' : iMake "Side" i_Side_init (iCons (iCB fSortedD (iCons (iVar 6) iNil)) iNil) _ _ = _ := k1
      rw [k1']; rfl
    · rw [← List.append_assoc, ← hU]; exact get_n0
    · rw [← List.append_assoc, ← hU]; exact get_n1
    · rw [mem]
      obtain ⟨r, hr⟩ := hone
      rw [hr]; exact List.mem_cons_self
end IL

end
section
set_option linter.all false
set_option maxRecDepth 100000
set_option maxHeartbeats 1000000
namespace IL
open PySem L2
/-! ### the look at a chain -/
def chStep (ts : List (Nat × Nat)) (an : List Nat) : Option (List Nat × Nat) → Int → Option (List Nat × Nat)
  | some (pre, b), z => if 0 ≤ z ∧ z < (ts.length : Int) ∧ an.getD z.toNat 0 = b then some (pre ++ [b], sec ts z.toNat b) else none
  | none, _ => none
def chF (ts : List (Nat × Nat)) (an : List Nat) (near : Nat) (xs : List Int) : Option (List Nat × Nat) := xs.foldl (chStep ts an) (some ([], near))
def allDiff (ms : List Nat) : Bool := decide ((dd (ms.map fun (x : Nat) => (x : Int))).length = ms.length)
def chB (ts : List (Nat × Nat)) (an : List Nat) (near far : Nat) (xs : List Int) : Bool := match chF ts an near xs with
  | some (pre, b) => decide (b = far) && allDiff (pre ++ [b])
  | none => false
theorem chF_none (ts : List (Nat × Nat)) (an : List Nat) : ∀ xs : List Int, xs.foldl (chStep ts an) none = none
  | [] => rfl
  | x :: xs => chF_none ts an xs
theorem chStep_pos {ts : List (Nat × Nat)} {an pre : List Nat} {b t : Nat} (h : t < ts.length) (hb : an.getD t 0 = b) : chStep ts an (some (pre, b)) (t : Int) = some (pre ++ [b], sec ts t b) := by
  show (if 0 ≤ (t : Int) ∧ (t : Int) < (ts.length : Int) ∧ an.getD (t : Int).toNat 0 = b then some (pre ++ [b], sec ts (t : Int).toNat b) else none) = _
  rw [if_pos ⟨by omega, by omega, by simpa using hb⟩]
  rfl
theorem chStep_neg {ts : List (Nat × Nat)} {an pre : List Nat} {b : Nat} {z : Int} (h : ¬ (0 ≤ z ∧ z < (ts.length : Int) ∧ an.getD z.toNat 0 = b)) : chStep ts an (some (pre, b)) z = none := if_neg h
theorem chStep_pre {ts : List (Nat × Nat)} {an pre pre' : List Nat} {b b' : Nat} {z : Int} (h : chStep ts an (some (pre, b)) z = some (pre', b')) : pre' = pre ++ [b] := by
  by_cases hc : 0 ≤ z ∧ z < (ts.length : Int) ∧ an.getD z.toNat 0 = b
  · have : chStep ts an (some (pre, b)) z = some (pre ++ [b], sec ts z.toNat b) := if_pos hc
    rw [this] at h; cases h; rfl
  · rw [chStep_neg hc] at h; cases h
theorem last_ix' {xs : List Nat} {S : Sto} {p x : Nat} (h : S[p]? = some (LN (xs ++ [x]))) : fIx (.ref p) (.int (-1)) S = .ok (vN x) S := by
  unfold LN at h
  have e : ixN (xs.length + 1) (-1) = some xs.length := by
    unfold ixN
    rw [if_neg (by decide), if_pos (by omega)]
    congr 1; omega
  simp only [fIx, getQ_lst h, atI, List.length_map, List.length_append, List.length_singleton, e, Option.bind_some, List.getElem?_map]
  simp
/-- the loop's body, by the names' places -/
def chBody (vt vs va vc : Nat) (f : Fn) : IS := (sSeq (sIf (iOr (iNot (iB (iChain fLe fLt (iC (.int 0)) (iVar va) (iCB fLen (iCons (iVar vt) iNil))))) (iB (iOp fNe (iOp fIx (iVar vs) (iVar va)) (iOp fIx (iVar vc) (iUn fNeg (iC (.int 1))))))) (sRet (iC (.bl false))) sNext)
  (sExpr (iBM mAppend (iVar vc) (iCons (iCall f (iCons (iOp fIx (iVar vt) (iVar va)) (iCons (iOp fIx (iVar vc) (iUn fNeg (iC (.int 1)))) iNil))) iNil))))
def Sec2 (f : Fn) : Prop := ∀ (S : Sto) (q a b x : Nat), S[q]? = some (.tup [vN a, vN b]) → (x = a ∨ x = b) → f [.ref q, vN x] S = .ok (vN (a + b - x)) S
theorem sec2_of : Sec2 i_second_of := fun S q a b x h hx => second_of_ok h (by omega)
theorem fChainLe {S : Sto} {z : Int} {m : Nat} : ∀ (ρ : Env) (va : Nat) (c : IE), ρ[va]? = some (some (.int z)) → c ρ S = .ok (vN m) S → iB (iChain fLe fLt (iC (.int 0)) (iVar va) c) ρ S = .ok (decide (0 ≤ z) && decide (z < (m : Int))) S := fun ρ va c h hc => by
  have e1 : fLe (.int 0) (.int z) S = .ok (.bl (decide (0 ≤ z))) S := rfl
  have e2 : fLt (.int z) (vN m) S = .ok (.bl (decide (z < (m : Int)))) S := rfl
  simp only [x_B, x_chain, x_c, R.bind_ok, x_var, h, e1, x_asB]
  by_cases hz : 0 ≤ z
  · simp only [decide_eq_true hz, if_true, hc, R.bind_ok, e2, x_asB, Bool.true_and]
  · simp only [decide_eq_false hz, Bool.false_eq_true, if_false, R.bind_ok, x_asB, Bool.false_and]
theorem ch_body {S : Sto} {p q b : Nat} {z : Int} {pre : List Nat} {vs : List Va} {ts : List (Nat × Nat)} {an : List Nat} {vt vsh va vc : Nat} {f : Fn} {ρ : Env} (hf : Sec2 f) (hp : S[p]? = some (.lst vs)) (ht : Tks S vs ts) (hq : S[q]? = some (LN an)) (hg : GS ts an)
    (h1 : ρ[vt]? = some (some (.ref p))) (h2 : ρ[vsh]? = some (some (.ref q))) (h3 : ρ[va]? = some (some (.int z))) (h4 : ρ[vc]? = some (some (.ref S.length))) (hl : pre.length < 1000) :
    chBody vt vsh va vc f ρ (S ++ [LN (pre ++ [b])]) = match chStep ts an (some (pre, b)) z with
      | some (pre', b') => .nx ρ (S ++ [LN (pre' ++ [b'])])
      | none => .rt (.bl false) (S ++ [LN (pre ++ [b])]) := by
  have hlv := Paired.len ht
  have hla := Paired.len hg
  have c0 : (S ++ [LN (pre ++ [b])])[S.length]? = some (LN (pre ++ [b])) := get_n0
  have c1 : fIx (.ref S.length) (.int (-1)) (S ++ [LN (pre ++ [b])]) = .ok (vN b) (S ++ [LN (pre ++ [b])]) := last_ix' c0
  have c2 : iCB fLen (iCons (iVar vt) iNil) ρ (S ++ [LN (pre ++ [b])]) = .ok (vN ts.length) (S ++ [LN (pre ++ [b])]) := by
    simp only [x_cb, x_cons, x_nil, x_var, h1, R.bind_ok, fLen, getQ_lst (get_app hp), hlv]; rfl
  have c3 := fChainLe ρ va _ h3 c2
  have ng : fNeg (.int 1) (S ++ [LN (pre ++ [b])]) = .ok (.int (-1)) (S ++ [LN (pre ++ [b])]) := rfl
  unfold chBody
  by_cases hz : 0 ≤ z ∧ z < (ts.length : Int)
  · obtain ⟨t, rfl⟩ : ∃ t : Nat, z = (t : Int) := ⟨z.toNat, by omega⟩
    have htl : t < ts.length := by omega
    have e1 : an[t]? = some (an.getD t 0) := by simp [List.getD, show t < an.length by omega]
    have c4 : fIx (.ref q) (.int (t : Int)) (S ++ [LN (pre ++ [b])]) = .ok (vN (an.getD t 0)) (S ++ [LN (pre ++ [b])]) := fIx_lst (get_app hq) (vN_get e1)
    have c5 : (decide (0 ≤ (t : Int)) && decide ((t : Int) < (ts.length : Int))) = true := by simp; omega
    rw [c5] at c3
    have c6 : fNe (vN (an.getD t 0)) (vN b) (S ++ [LN (pre ++ [b])]) = .ok (.bl (!decide (an.getD t 0 = b))) (S ++ [LN (pre ++ [b])]) := fNe_N
    simp only [x_seq, x_sif, x_or, x_not, c3, R.bind_ok, Bool.not_true, Bool.false_eq_true, if_false, x_B, x_op, x_var, h2, h3, c4, h4, x_un, x_c, ng, c1, c6, x_asB, R.toO_ok]
    by_cases hb : an.getD t 0 = b
    · rw [chStep_pos htl hb]
      obtain ⟨a', b', g1, g2⟩ := hg.gp t _ e1
      rw [hb] at g2
      obtain ⟨v, g3, w, rfl, g4⟩ : ∃ v, vs[t]? = some v ∧ ∃ w, v = .ref w ∧ S[w]? = some (.tup [vN a', vN b']) := by
        have hil : t < vs.length := by omega
        have e2 : vs[t]? = some vs[t] := by simp [hil]
        obtain ⟨t', e3, w, e4, e5⟩ := Paired.get ht e2
        rw [g1] at e3; cases e3
        exact ⟨_, e2, w, e4, e5⟩
      have d1 : fIx (.ref p) (.int (t : Int)) (S ++ [LN (pre ++ [b])]) = .ok (.ref w) (S ++ [LN (pre ++ [b])]) := fIx_lst (get_app hp) g3
      have d2 : f [.ref w, vN b] (S ++ [LN (pre ++ [b])]) = .ok (vN (sec ts t b)) (S ++ [LN (pre ++ [b])]) := by rw [sec_of g1]; exact hf _ _ _ _ _ (get_app g4) g2
      have d3 := mAppend_LN (x := sec ts t b) c0 (by simp; omega)
      rw [set_n0] at d3
      simp only [hb, decide_true, Bool.not_true, Bool.false_eq_true, if_false, x_next, O.seq_nx, x_expr, x_bm, x_var, h4, R.bind_ok, getL_LN c0, x_cons, x_nil, x_call, x_op, h1, h3, d1, x_un, x_c, ng, c1, d2, d3, R.toO_ok, Int.toNat_natCast]
    · rw [chStep_neg (by rintro ⟨_, _, z⟩; exact hb (by simpa using z))]
      simp only [decide_eq_false hb, Bool.not_false, if_true, x_ret, x_c, R.toO_ok, O.seq_rt]
  · have c5 : (decide (0 ≤ z) && decide (z < (ts.length : Int))) = false := by
      rw [Bool.and_eq_false_iff]
      by_cases h0 : 0 ≤ z
      · right; rw [decide_eq_false_iff_not]; intro h; exact hz ⟨h0, h⟩
      · left; rw [decide_eq_false_iff_not]; exact h0
    rw [c5] at c3
    rw [chStep_neg (by rintro ⟨z1, z2, _⟩; exact hz ⟨z1, z2⟩)]
    simp only [x_seq, x_sif, x_or, x_not, c3, R.bind_ok, Bool.not_false, if_true, R.toO_ok, x_ret, x_c, O.seq_rt]
theorem ch_loop {S : Sto} {p q l near : Nat} {xs : List Int} {vs : List Va} {ts : List (Nat × Nat)} {an : List Nat} {vt vsh va vc : Nat} {f : Fn} {ρ : Env} (hf : Sec2 f) (hp : S[p]? = some (.lst vs)) (ht : Tks S vs ts) (hq : S[q]? = some (LN an)) (hg : GS ts an) (hxl : S[l]? = some (.lst (xs.map .int)))
    (h1 : ρ[vt]? = some (some (.ref p))) (h2 : ρ[vsh]? = some (some (.ref q))) (h4 : ρ[vc]? = some (some (.ref S.length))) (hl : xs.length < 900) (n1 : va ≠ vt) (n2 : va ≠ vsh) (n3 : va ≠ vc) (hva : va < ρ.length) :
    match chF ts an near xs with
      | some (pre, b) => ∃ ρ', forL (sameAt (S ++ [LN [near]]) (.ref l)) (tgName va) (chBody vt vsh va vc f) ((xs.map .int).map .one) ρ (S ++ [LN [near]]) = .nx ρ' (S ++ [LN (pre ++ [b])]) ∧ (∀ j, j ≠ va → ρ'[j]? = ρ[j]?) ∧ pre.length = xs.length
      | none => ∃ S', forL (sameAt (S ++ [LN [near]]) (.ref l)) (tgName va) (chBody vt vsh va vc f) ((xs.map .int).map .one) ρ (S ++ [LN [near]]) = .rt (.bl false) (S ++ S') := by
  refine for_rule (G := fun o => match chF ts an near xs with | some (pre, b) => ∃ ρ', o = .nx ρ' (S ++ [LN (pre ++ [b])]) ∧ (∀ j, j ≠ va → ρ'[j]? = ρ[j]?) ∧ pre.length = xs.length | none => ∃ S', o = .rt (.bl false) (S ++ S'))
    (fun k ρ' S' => ∃ pre b, (xs.take k).foldl (chStep ts an) (some ([], near)) = some (pre, b) ∧ S' = S ++ [LN (pre ++ [b])] ∧ (∀ j, j ≠ va → ρ'[j]? = ρ[j]?) ∧ ρ'.length = ρ.length ∧ pre.length = min k xs.length)
    ((xs.map .int).map .one) 0 ρ (S ++ [LN [near]]) ⟨[], near, rfl, rfl, fun _ _ => rfl, rfl, by simp⟩ (fun j it ρ' S' e ⟨pre, b, e1, e2, e3, e4, e5⟩ => ?_) (fun ρ' S' ⟨pre, b, e1, e2, e3, e4, e5⟩ => ?_)
  · subst e2
    rw [Nat.zero_add] at e1 e5
    obtain ⟨v, z1, rfl⟩ := map_one_get e
    obtain ⟨z, z2, rfl⟩ := map_get z1
    have hjl := (List.getElem?_eq_some_iff.mp z2).1
    refine ⟨sameAt_app2 hxl, ρ'.set va (some (.int z)), _, rfl, ?_⟩
    have hb := ch_body (b := b) (z := z) (pre := pre) (va := va) (ρ := ρ'.set va (some (.int z))) hf hp ht hq hg (by rw [List.getElem?_set_ne n1, e3 _ (Ne.symm n1)]; exact h1) (by rw [List.getElem?_set_ne n2, e3 _ (Ne.symm n2)]; exact h2) (by rw [List.getElem?_set_self (by omega)]) (by rw [List.getElem?_set_ne n3, e3 _ (Ne.symm n3)]; exact h4) (by omega)
    rw [hb]
    have ht1 : xs.take (j + 1) = xs.take j ++ [z] := by rw [List.take_succ, z2]; rfl
    have hfold : (xs.take (j + 1)).foldl (chStep ts an) (some ([], near)) = chStep ts an (some (pre, b)) z := by rw [ht1, List.foldl_append, e1]; rfl
    have hall : chF ts an near xs = (xs.drop (j + 1)).foldl (chStep ts an) (chStep ts an (some (pre, b)) z) := by
      unfold chF
      rw [← hfold, ← List.foldl_append, List.take_append_drop]
    cases hs : chStep ts an (some (pre, b)) z with
    | none =>
      rw [hs, chF_none] at hall
      rw [hall]
      exact ⟨_, rfl⟩
    | some pb =>
      obtain ⟨pre', b'⟩ := pb
      have hpl : pre' = pre ++ [b] := chStep_pre hs
      refine ⟨pre', b', ?_, rfl, fun k hk => by rw [List.getElem?_set_ne (Ne.symm hk)]; exact e3 k hk, by rw [List.length_set]; exact e4, ?_⟩
      · rw [Nat.zero_add, hfold, hs]
      · rw [hpl, List.length_append, List.length_singleton]; omega
  · subst e2
    rw [Nat.zero_add, List.length_map, List.length_map] at e1 e5
    rw [List.take_length] at e1
    refine ⟨sameAt_app2 hxl, ?_⟩
    have : chF ts an near xs = some (pre, b) := e1
    rw [this]
    exact ⟨ρ', rfl, e3, by omega⟩
end IL

end
section
set_option linter.all false
set_option maxRecDepth 100000
set_option maxHeartbeats 1000000
namespace IL
open PySem L2
theorem getO_ref {S : Sto} {k : Nat} {c : Str} {fs : List (Str × Va)} (h : S[k]? = some (.obj c fs)) : getO S (.ref k) = some (c, fs) := by simp [getO, h]
theorem fld_ok {S : Sto} {k : Nat} {c f : Str} {v : Va} {fs : List (Str × Va)} {a : IE} {ρ : Env} (ha : a ρ S = .ok (.ref k) S) (hk : S[k]? = some (.obj c fs)) (hc : c ∈ clsL) (hf : fs.lookup f = some v) : iFld a f ρ S = .ok v S := by
  simp only [x_fld, ha, R.bind_ok, getO_ref hk, hc, if_true, hf]
theorem lk1 {f : Str} {v : Va} : List.lookup f [(f, v)] = some v := by simp
theorem fLenSet_N {S : Sto} {p : Nat} {ms : List Nat} (h : S[p]? = some (LN ms)) (hl : ms.length ≤ 1000) : fLenSet [.ref p] S = .ok (vN (dd (ms.map fun (x : Nat) => (x : Int))).length) S := by
  have hl' : (ms.map fun (x : Nat) => (x : Int)).length ≤ 1000 := by rw [List.length_map]; exact hl
  simp only [fLenSet, getL_LN h, Option.bind_some, asIs_N, hl', if_true]
  rfl
theorem fLen_N {S : Sto} {p : Nat} {ms : List Nat} (h : S[p]? = some (LN ms)) : fLen [.ref p] S = .ok (vN ms.length) S := by
  simp only [fLen, getQ_lst h, List.length_map]; rfl
theorem chain_shows_ok {S : Sto} {k l p q near far : Nat} {v1 : Va} {xs : List Int} {vs : List Va} {ts : List (Nat × Nat)} {an : List Nat} (hk : S[k]? = some (.obj "Chain" [("tasks", .ref l)])) (hxl : S[l]? = some (.lst (xs.map .int))) (hp : S[p]? = some (.lst vs)) (ht : Tks S vs ts) (hq : S[q]? = some (LN an)) (hg : GS ts an) (hl : xs.length < 900) :
    ∃ T, i_Chain_shows [.ref k, v1, .ref p, .ref q, vN near, vN far] S = .ok (.bl (chB ts an near far xs)) (S ++ T) := by
  obtain ⟨S1, hS1⟩ : ∃ S1, S1 = S ++ [LN [near]] := ⟨_, rfl⟩
  have hS1' : S1 = S ++ [Ob.lst [vN near]] := hS1
  have hfl : iFld (iVar 0) "tasks" [some (.ref k), some v1, some (.ref p), some (.ref q), some (vN near), some (vN far), some (.ref S.length), none] S1 = .ok (.ref l) S1 := by
    rw [hS1]; exact fld_ok rfl (get_app hk) (by decide +kernel) lk1
  have hlp := ch_loop (f := i_second_of) (ρ := [some (.ref k), some v1, some (.ref p), some (.ref q), some (vN near), some (vN far), some (.ref S.length), none]) (vt := 2) (vsh := 3) (va := 7) (vc := 6) (near := near) sec2_of hp ht hq hg hxl rfl rfl rfl hl (by decide) (by decide) (by decide) (by simp)
  rw [← hS1] at hlp
  have hB : (sSeq (sIf (iOr (iNot (iB (iChain fLe fLt (iC (.int 0)) (iVar 7) (iCB fLen (iCons (iVar 2) iNil))))) (iB (iOp fNe (iOp fIx (iVar 3) (iVar 7)) (iOp fIx (iVar 6) (iUn fNeg (iC (.int 1))))))) (sRet (iC (.bl false))) sNext)
  (sExpr (iBM mAppend (iVar 6) (iCons (iCall i_second_of (iCons (iOp fIx (iVar 2) (iVar 7)) (iCons (iOp fIx (iVar 6) (iUn fNeg (iC (.int 1)))) iNil))) iNil)))) = chBody 2 3 7 6 i_second_of := rfl
  have l1 : getL S1 (.ref l) = some (xs.map .int) := by rw [hS1]; exact getL_ref (get_app hxl)
  simp only [i_Chain_shows, mkFn, List.length_cons, List.length_nil, if_true, List.map_cons, List.map_nil, hB, List.cons_append, List.nil_append, Nat.reduceAdd, Nat.reduceSub, List.replicate]
  simp only [x_seq, x_asg, x_lst, x_cons, x_nil, x_var, List.getElem?_cons_succ, List.getElem?_cons_zero, R.bind_ok, R.toO_ok, x_tgName, List.set, ← hS1', O.seq_nx, x_for, x_itList, hfl, l1]
  unfold chB
  cases hc : chF ts an near xs with
  | none =>
    rw [hc] at hlp
    obtain ⟨S', h⟩ := hlp
    rw [h]
    exact ⟨S', rfl⟩
  | some pb =>
    obtain ⟨pre, b⟩ := pb
    rw [hc] at hlp
    obtain ⟨ρ', h, hρ, hpl⟩ := hlp
    rw [h]
    have r6 : ρ'[6]? = some (some (.ref S.length)) := hρ 6 (by decide)
    have r5 : ρ'[5]? = some (some (vN far)) := hρ 5 (by decide)
    have c0 : (S ++ [LN (pre ++ [b])])[S.length]? = some (LN (pre ++ [b])) := get_n0
    have ng : fNeg (.int 1) (S ++ [LN (pre ++ [b])]) = .ok (.int (-1)) (S ++ [LN (pre ++ [b])]) := rfl
    refine ⟨[LN (pre ++ [b])], ?_⟩
    have c3 := fLenSet_N c0 (by simp; omega)
    have c4 := fLen_N c0
    simp only [O.seq_nx, x_ret, x_andV, x_op, x_var, r6, r5, R.bind_ok, x_un, x_c, ng, last_ix' c0, fEq_NN, x_asB]
    by_cases hb : b = far
    · simp only [decide_eq_true hb, if_true, x_cb, x_cons, x_nil, x_var, r6, R.bind_ok, c3, c4, fEq_NN, R.toO_ok, x_val_rt, Bool.true_and]
      rfl
    · simp only [decide_eq_false hb, Bool.false_eq_true, if_false, R.toO_ok, x_val_rt, Bool.false_and]
/-! ### people -/
def pplB (xs : List Int) (n : Nat) : Bool := decide (xs = srt (dd xs)) && xs.all fun x => decide (0 ≤ x) && decide (x < (n : Int))
theorem fEq_I {S : Sto} {p q : Nat} {xs ys : List Int} (h : S[p]? = some (.lst (xs.map .int))) (hq : S[q]? = some (.lst (ys.map .int))) : fEq (.ref p) (.ref q) S = .ok (.bl (decide (xs = ys))) S := by
  have h1 : toP 9 S (.ref p) = some (.list (xs.map PyData.int)) := by simp only [toP, h, toP_I]
  have h2 : toP 9 S (.ref q) = some (.list (ys.map PyData.int)) := by simp only [toP, hq, toP_I]
  simp only [fEq, h1, h2, PyData.eqv, eqv_I]
noncomputable abbrev pplE : IE := (iAndV (iOp fEq (iVar 0) (iCB fSortedSet (iCons (iVar 0) iNil))) (iCB fAll (iCons (iLc (itList (iVar 0)) (tgName 2) iYes (iChain fLe fLt (iC (.int 0)) (iVar 2) (iVar 1)) [2]) iNil)))
theorem pplE_ok {S : Sto} {l n : Nat} {xs : List Int} (hx : S[l]? = some (.lst (xs.map .int))) (hl : xs.length < 64) : ∃ T, pplE [some (.ref l), some (vN n), none] S = .ok (.bl (pplB xs n)) (S ++ T) := by
  have c1 : fSortedSet [.ref l] S = .ok (.ref S.length) (S ++ [.lst ((srt (dd xs)).map .int)]) := by
    simp only [fSortedSet, getL_ref hx, Option.bind_some, asIs_I, hl, if_true]
  have c2 : fEq (.ref l) (.ref S.length) (S ++ [.lst ((srt (dd xs)).map .int)]) = .ok (.bl (decide (xs = srt (dd xs)))) (S ++ [.lst ((srt (dd xs)).map .int)]) := fEq_I (get_app hx) get_n0
  unfold pplB
  by_cases h : xs = srt (dd xs)
  · rw [decide_eq_true h] at c2 ⊢
    obtain ⟨S1, hS1⟩ : ∃ S1, S1 = S ++ [Ob.lst ((srt (dd xs)).map .int)] := ⟨_, rfl⟩
    rw [← hS1] at c1 c2
    have hx1 : S1[l]? = some (.lst (xs.map .int)) := by rw [hS1]; exact get_app hx
    have c3 := lcr_run0 (ii := itList (iVar 0)) (tg := tgName 2) (tt := iYes) (ie := iChain fLe fLt (iC (.int 0)) (iVar 2) (iVar 1)) (vs := [2]) (ρ := [some (.ref l), some (vN n), none]) (S := S1) (its := (xs.map .int).map .one) (os := xs.map fun x => some (.bl (decide (0 ≤ x) && decide (x < (n : Int))))) (chk := sameAt S1 (.ref l))
      (by simp [itList, iVar, getL_ref hx1]) (by simp; omega) sameAt_self (Paired.of_get (by simp) fun k it o h1 h2 => by
        obtain ⟨v, e1, rfl⟩ := map_one_get h1
        obtain ⟨x, e2, rfl⟩ := map_get e1
        obtain ⟨x', e3, rfl⟩ := map_get h2
        rw [e2] at e3; cases e3
        refine ⟨_, rfl, rfl, fun y hy => ?_⟩
        cases hy
        have f1 : fLe (.int 0) (.int x) S1 = .ok (.bl (decide (0 ≤ x))) S1 := rfl
        have f2 : fLt (.int x) (vN n) S1 = .ok (.bl (decide (x < (n : Int)))) S1 := rfl
        simp only [x_chain, x_c, R.bind_ok, x_var, x_wipe1, x_wipe0, List.set, List.getElem?_cons_succ, List.getElem?_cons_zero, f1, x_asB]
        by_cases hz : 0 ≤ x
        · simp only [decide_eq_true hz, if_true, R.bind_ok, f2, Bool.true_and]
        · simp only [decide_eq_false hz, Bool.false_eq_true, if_false, Bool.false_and])
    rw [fmap_some] at c3
    have b2 := asBs_B (fun x : Int => decide (0 ≤ x) && decide (x < (n : Int))) xs
    refine ⟨[.lst ((srt (dd xs)).map .int)] ++ [.lst (xs.map fun x => .bl (decide (0 ≤ x) && decide (x < (n : Int))))], ?_⟩
    rw [← List.append_assoc, ← hS1]
    simp only [pplE, x_andV, x_op, x_var, x_cb, x_cons, x_nil, List.getElem?_cons_succ, List.getElem?_cons_zero, R.bind_ok, c1, c2, x_asB, if_true, c3, fAll, getL_ref get_n0, Option.bind_some, b2, List.all_map, Bool.true_and]
    rfl
  · rw [decide_eq_false h] at c2 ⊢
    refine ⟨[.lst ((srt (dd xs)).map .int)], ?_⟩
    simp only [pplE, x_andV, x_op, x_var, x_cb, x_cons, x_nil, List.getElem?_cons_succ, List.getElem?_cons_zero, R.bind_ok, c1, c2, x_asB, Bool.false_eq_true, if_false, Bool.false_and]
theorem are_people_ok {S : Sto} {l n : Nat} {xs : List Int} (hx : S[l]? = some (.lst (xs.map .int))) (hl : xs.length < 64) : ∃ T, i_are_people [.ref l, vN n] S = .ok (.bl (pplB xs n)) (S ++ T) := by
  obtain ⟨T, h⟩ := pplE_ok (n := n) hx hl
  refine ⟨T, ?_⟩
  simp only [i_are_people, mk2, List.replicate]
  unfold pplE at h
  rw [x_ret, h]
  rfl
end IL

end
section
set_option linter.all false
set_option maxRecDepth 100000
set_option maxHeartbeats 1000000
namespace IL
open PySem L2
theorem flat_I (xs : List Int) : (xs.map Va.int).all flatA = true := by rw [List.all_map]; simp [flatA]
theorem inA_I (z : Int) (xs : List Int) : inA (.int z) (xs.map .int) = decide (z ∈ xs) := by
  unfold inA
  rw [List.any_map]
  by_cases h : z ∈ xs
  · rw [decide_eq_true h, List.any_eq_true]
    exact ⟨z, h, by simp [eqA]⟩
  · rw [decide_eq_false h, List.any_eq_false]
    intro y hy
    simp [eqA]
    rintro rfl
    exact h hy
theorem fIn_I {S : Sto} {l : Nat} {xs : List Int} {z : Int} {neg : Bool} (h : S[l]? = some (.lst (xs.map .int))) : fIn neg (.int z) (.ref l) S = .ok (.bl (if neg then !decide (z ∈ xs) else decide (z ∈ xs))) S := by
  have hf : flatA (.int z) = true ∧ (xs.map Va.int).all flatA = true := ⟨rfl, flat_I xs⟩
  simp only [fIn, getQ_lst h, hf, and_self, if_true, inA_I]
theorem fIn_T {S : Sto} {l : Nat} {xs : List Int} {z : Nat} (h : S[l]? = some (.lst (xs.map .int))) : fIn true (vN z) (.ref l) S = .ok (.bl (!decide ((z : Int) ∈ xs))) S := fIn_I h
theorem fIn_F {S : Sto} {l : Nat} {xs : List Int} {z : Nat} (h : S[l]? = some (.lst (xs.map .int))) : fIn false (vN z) (.ref l) S = .ok (.bl (decide ((z : Int) ∈ xs))) S := fIn_I h
/-- task t leads out of xs -/
def bad (ts : List (Nat × Nat)) (an : List Nat) (xs : List Int) (t : Nat) : Bool := decide (((an.getD t 0 : Nat) : Int) ∈ xs) && !decide (((sec ts t (an.getD t 0) : Nat) : Int) ∈ xs)
def sideB (n : Nat) (ts : List (Nat × Nat)) (an : List Nat) (near far : Nat) (xs : List Int) : Bool := pplB xs n && (decide ((near : Int) ∈ xs) && (!decide ((far : Int) ∈ xs) && (List.range an.length).all fun t => !bad ts an xs t))
theorem fmap_if {α : Type} (f : α → Va) (c : α → Bool) : ∀ l : List α, (l.map fun x => if c x = true then some (f x) else none).filterMap id = (l.filter c).map f
  | [] => rfl
  | x :: l => by
    rw [List.map_cons]
    cases h : c x
    · simp [h, fmap_if f c l]
    · simp [h, fmap_if f c l]
theorem task_at {S : Sto} {vs : List Va} {ts : List (Nat × Nat)} {an : List Nat} (ht : Tks S vs ts) (hg : GS ts an) {t x : Nat} (h : an[t]? = some x) : ∃ w a b, vs[t]? = some (.ref w) ∧ S[w]? = some (.tup [vN a, vN b]) ∧ (x = a ∨ x = b) ∧ sec ts t x = a + b - x := by
  obtain ⟨a, b, g1, g2⟩ := hg.gp t x h
  have hl := Paired.len ht
  have hil : t < vs.length := by rw [hl]; exact (List.getElem?_eq_some_iff.mp g1).1
  have e2 : vs[t]? = some vs[t] := by simp [hil]
  obtain ⟨t', e3, w, e4, e5⟩ := Paired.get ht e2
  rw [g1] at e3; cases e3
  exact ⟨w, a, b, by rw [e2, e4], e5, g2, sec_of g1⟩
theorem side_shows_ok {S : Sto} {k l p q near far n : Nat} {xs : List Int} {vs : List Va} {ts : List (Nat × Nat)} {an : List Nat} (hk : S[k]? = some (.obj "Side" [("some", .ref l)])) (hxl : S[l]? = some (.lst (xs.map .int))) (hp : S[p]? = some (.lst vs)) (ht : Tks S vs ts) (hq : S[q]? = some (LN an)) (hg : GS ts an) (hl : xs.length < 64) (hal : an.length ≤ 900) :
    ∃ T, i_Side_shows [.ref k, vN n, .ref p, .ref q, vN near, vN far] S = .ok (.bl (sideB n ts an near far xs)) (S ++ T) := by
  have fl : ∀ (T : Sto) (ρ : Env), iFld (iVar 0) "some" (some (.ref k) :: ρ) (S ++ T) = .ok (.ref l) (S ++ T) := fun T ρ => fld_ok rfl (get_app hk) (by decide +kernel) lk1
  have fl0 : ∀ (ρ : Env), iFld (iVar 0) "some" (some (.ref k) :: ρ) S = .ok (.ref l) S := fun ρ => fld_ok rfl hk (by decide +kernel) lk1
  obtain ⟨T1, c1⟩ := are_people_ok (n := n) hxl hl
  have i1 : fIn true (vN near) (.ref l) (S ++ T1) = .ok (.bl (!decide ((near : Int) ∈ xs))) (S ++ T1) := fIn_T (get_app hxl)
  have i2 : fIn false (vN far) (.ref l) (S ++ T1) = .ok (.bl (decide ((far : Int) ∈ xs))) (S ++ T1) := fIn_F (get_app hxl)
  unfold sideB
  simp only [i_Side_shows, mkFn, List.length_cons, List.length_nil, if_true, List.map_cons, List.map_nil, List.cons_append, List.nil_append, Nat.reduceAdd, Nat.reduceSub, List.replicate]
  simp only [x_seq, x_sif, x_or, x_not, x_B, x_call, x_cons, x_nil, fl0, x_var, List.getElem?_cons_succ, List.getElem?_cons_zero, R.bind_ok, c1, x_asB]
  cases hb1 : pplB xs n with
  | false => exact ⟨T1, by simp only [Bool.not_false, if_true, R.toO_ok, x_ret, x_c, O.seq_rt, x_val_rt, Bool.false_and]⟩
  | true =>
    simp only [Bool.not_true, Bool.false_eq_true, if_false, x_op, x_var, fl, List.getElem?_cons_succ, List.getElem?_cons_zero, R.bind_ok, i1, x_asB]
    by_cases hn : (near : Int) ∈ xs
    · simp only [decide_eq_true hn, Bool.not_true, Bool.false_eq_true, if_false, R.bind_ok, i2, x_asB, R.toO_ok]
      by_cases hf : (far : Int) ∈ xs
      · exact ⟨T1, by simp only [decide_eq_true hf, if_true, x_ret, x_c, R.toO_ok, O.seq_rt, x_val_rt, Bool.not_true, Bool.false_and, Bool.and_false]⟩
      · simp only [decide_eq_false hf, Bool.false_eq_true, if_false, x_next, O.seq_nx]
        have c2 := lcr_run0 (ii := itEnum (iVar 3)) (tg := tgTupN 2 [(tgName 7), (tgName 8)]) (tt := iAnd (iB (iOp (fIn false) (iVar 8) (iFld (iVar 0) "some"))) (iB (iOp (fIn true) (iCall i_second_of (iCons (iOp fIx (iVar 2) (iVar 7)) (iCons (iVar 8) iNil))) (iFld (iVar 0) "some")))) (ie := iVar 7) (vs := [7, 8]) (ρ := [some (.ref k), some (vN n), some (.ref p), some (.ref q), some (vN near), some (vN far), none, none, none]) (S := S ++ T1)
          (its := enuI 0 (an.map vN)) (os := (List.range an.length).map fun t => if bad ts an xs t = true then some (vN t) else none) (chk := sameAt (S ++ T1) (.ref q))
          (by simp only [x_itEnum, x_var, List.getElem?_cons_succ, List.getElem?_cons_zero, R.bind_ok, getL_LN (get_app hq)]) (by rw [enuI_length, List.length_map]; omega) sameAt_self (Paired.of_get (by rw [enuI_length, List.length_map, List.length_map, List.length_range]) fun j it o h1 h2 => by
            obtain ⟨v, z1, rfl⟩ := enuI_get0 h1
            obtain ⟨x, z2, rfl⟩ := map_get z1
            obtain ⟨t, z3, rfl⟩ := map_get h2
            have htj : t = j := by
              obtain ⟨u1, u2⟩ := List.getElem?_eq_some_iff.mp z3
              rw [List.getElem_range] at u2; omega
            subst htj
            have hx : an.getD t 0 = x := by simp [List.getD, z2]
            obtain ⟨w, a, b, g1, g2, g3, g4⟩ := task_at ht hg z2
            have d1 : fIx (.ref p) (vN t) (S ++ T1) = .ok (.ref w) (S ++ T1) := fIx_lst (get_app hp) g1
            have d2 : i_second_of [.ref w, vN x] (S ++ T1) = .ok (vN (sec ts t x)) (S ++ T1) := by rw [g4]; exact second_of_ok (get_app g2) (by omega)
            have d3 : fIn false (vN x) (.ref l) (S ++ T1) = .ok (.bl (decide ((x : Int) ∈ xs))) (S ++ T1) := fIn_F (get_app hxl)
            have d4 : fIn true (vN (sec ts t x)) (.ref l) (S ++ T1) = .ok (.bl (!decide (((sec ts t x : Nat) : Int) ∈ xs))) (S ++ T1) := fIn_T (get_app hxl)
            refine ⟨_, rfl, ?_, fun y hy => ?_⟩
            · simp only [x_and, x_B, x_op, x_wipe1, x_wipe0, List.set, x_var, fl, List.getElem?_cons_succ, List.getElem?_cons_zero, R.bind_ok, d3, x_asB]
              unfold bad
              rw [hx]
              by_cases hm : (x : Int) ∈ xs
              · simp only [decide_eq_true hm, if_true, x_call, x_cons, x_nil, x_op, x_var, List.getElem?_cons_succ, List.getElem?_cons_zero, R.bind_ok, d1, d2, fl, d4, x_asB, Bool.true_and]
                cases decide (((sec ts t x : Nat) : Int) ∈ xs) <;> rfl
              · simp only [decide_eq_false hm, Bool.false_eq_true, if_false, Bool.false_and]
                rfl
            · simp only [x_wipe1, x_wipe0, List.set, x_var, List.getElem?_cons_succ, List.getElem?_cons_zero]
              split at hy <;> cases hy
              rfl)
        rw [fmap_if] at c2
        obtain ⟨ou, hou⟩ : ∃ ou, ou = (List.range an.length).filter (bad ts an xs) := ⟨_, rfl⟩
        rw [← hou] at c2
        have c3 : fEq (.ref (S ++ T1).length) (.ref (S ++ T1 ++ [LN ou]).length) (S ++ T1 ++ [LN ou] ++ [.lst []]) = .ok (.bl (decide (ou = []))) (S ++ T1 ++ [LN ou] ++ [.lst []]) := by
          have h1 : toP 9 (S ++ T1 ++ [LN ou] ++ [.lst []]) (.ref (S ++ T1).length) = some (.list (ou.map fun (x : Nat) => PyData.int (x : Int))) := by simp only [toP, show (S ++ T1 ++ [LN ou] ++ [Ob.lst []])[(S ++ T1).length]? = some (.lst (ou.map vN)) from get_app get_n0, toP_N]
          have h2 : toP 9 (S ++ T1 ++ [LN ou] ++ [.lst []]) (.ref (S ++ T1 ++ [LN ou]).length) = some (.list (([] : List Nat).map fun (x : Nat) => PyData.int (x : Int))) := by simp only [toP, show (S ++ T1 ++ [LN ou] ++ [Ob.lst []])[(S ++ T1 ++ [LN ou]).length]? = some (.lst (([] : List Nat).map vN)) from get_n0, toP_N]
          simp only [fEq, h1, h2, PyData.eqv, eqv_N]
        have c2' : iLc (itEnum (iVar 3)) (tgTupN 2 [(tgName 7), (tgName 8)]) (iAnd (iB (iOp (fIn false) (iVar 8) (iFld (iVar 0) "some"))) (iB (iOp (fIn true) (iCall i_second_of (iCons (iOp fIx (iVar 2) (iVar 7)) (iCons (iVar 8) iNil))) (iFld (iVar 0) "some")))) (iVar 7) [7, 8] [some (.ref k), some (vN n), some (.ref p), some (.ref q), some (vN near), some (vN far), none, none, none] (S ++ T1) = .ok (.ref (S ++ T1).length) (S ++ T1 ++ [LN ou]) := c2
        refine ⟨T1 ++ [LN ou] ++ [.lst []], ?_⟩
        rw [← List.append_assoc, ← List.append_assoc]
        simp only [x_seq, x_asg, c2', R.toO_ok, x_tgName, List.set, O.seq_nx, x_ret, x_op, x_var, List.getElem?_cons_succ, List.getElem?_cons_zero, R.bind_ok, x_lst, x_nil, c3, x_val_rt]
        congr 2
        try simp only [Bool.not_false, Bool.true_and]
        rw [hou]
        by_cases he : (List.range an.length).filter (bad ts an xs) = []
        · rw [decide_eq_true he]
          rw [List.filter_eq_nil_iff] at he
          symm
          rw [List.all_eq_true]
          intro t ht
          simpa using he t ht
        · rw [decide_eq_false he]
          symm
          rw [Bool.eq_false_iff]
          intro z
          rw [List.all_eq_true] at z
          apply he
          rw [List.filter_eq_nil_iff]
          intro t ht
          simpa using z t ht
    · exact ⟨T1, by simp only [decide_eq_false hn, Bool.not_false, if_true, R.toO_ok, x_ret, x_c, O.seq_rt, x_val_rt, Bool.false_and, Bool.and_false]⟩
end IL

end
section
set_option linter.all false
set_option maxRecDepth 100000
set_option maxHeartbeats 1000000
namespace IL
open PySem L2
noncomputable abbrev lsB : IS := (sSeq (sAsg (iCall i__law_number (iCons (iOp fIx (iVar 3) (iVar 6)) (iCons (iOp fAdd (iVar 6) (iOp fMul (iC (.int 63)) (iVar 2))) (iCons (iVar 4) iNil)))) (tgName 8))
  (sExpr (iBM mAppend (iVar 5) (iCons (iOp fIx (iVar 7) (iOp fMod (iOp fDiv (iVar 8) (iOp fIx (IL.iTup (iCons (iC (.int 10007)) (iCons (iC (.int 196613)) iNil))) (iVar 2))) (iC (.int 2)))) iNil))))
theorem ls_body {S : Sto} {p j f q by_ : Nat} {w : Int} {cs : List Int} {c : Int} {t : Nat × Nat} {sh : List Nat} {x0 x1 x8 : Option Va} (hcs : S[p]? = some (.lst (cs.map .int))) (hc : cs[j]? = some c) (hbc : bits c ≤ 1048576) (hw : bits w ≤ 1048700) (hj : j ≤ 63) (hby : by_ ≤ 1) (hq : S[q]? = some (.tup [vN t.1, vN t.2])) (hf : S[f]? = some (LN sh)) (hl : sh.length < 1000) :
    ∃ x x8', (x = t.1 ∨ x = t.2) ∧ lsB [x0, x1, some (vN by_), some (.ref p), some (.int w), some (.ref f), some (vN j), some (.ref q), x8] S = .nx [x0, x1, some (vN by_), some (.ref p), some (.int w), some (.ref f), some (vN j), some (.ref q), x8'] ((S ++ [Ob.tup [.int 10007, .int 196613]]).set f (LN (sh ++ [x]))) := by
  obtain ⟨z, hz⟩ := number_ok (S := S) (c := c) (a := (j : Int) + 63 * (by_ : Int)) (w := w) hbc (by omega) (by omega) hw
  have c1 : fIx (.ref p) (vN j) S = .ok (.int c) S := fIx_lst hcs (by rw [List.getElem?_map, hc]; rfl)
  have c2 : fMul (.int 63) (vN by_) S = .ok (.int (63 * (by_ : Int))) S := fMul_ii (mulOk_nat (x := 63) (by omega) (by omega))
  have c3 : fAdd (vN j) (.int (63 * (by_ : Int))) S = .ok (.int ((j : Int) + 63 * (by_ : Int))) S := rfl
  obtain ⟨S2, hS2⟩ : ∃ S2, S2 = S ++ [Ob.tup [.int 10007, .int 196613]] := ⟨_, rfl⟩
  obtain ⟨d, hd, hd2, c4⟩ : ∃ d : Int, 0 < d ∧ d < 1073741824 ∧ fIx (.ref S.length) (vN by_) S2 = .ok (.int d) S2 := by
    have h0 : S2[S.length]? = some (.tup [.int 10007, .int 196613]) := by rw [hS2]; exact get_n0
    have : by_ = 0 ∨ by_ = 1 := by omega
    rcases this with rfl | rfl
    · exact ⟨10007, by omega, by omega, fIx_tup h0 rfl⟩
    · exact ⟨196613, by omega, by omega, fIx_tup h0 rfl⟩
  have c5 : fDiv (.int z) (.int d) S2 = .ok (.int (z / d)) S2 := by simp only [fDiv]; rw [if_pos ⟨hd, hd2⟩]
  obtain ⟨b, hb, e⟩ := emod_nat (z / d) 2 (by omega)
  rw [show ((2 : Nat) : Int) = 2 from rfl] at e
  have c6 : fMod (.int (z / d)) (.int 2) S2 = .ok (vN b) S2 := by simp only [fMod, vN]; rw [if_pos (by omega), e]
  have hq2 : S2[q]? = some (.tup [vN t.1, vN t.2]) := by rw [hS2]; exact get_app hq
  have hf2 : S2[f]? = some (LN sh) := by rw [hS2]; exact get_app hf
  obtain ⟨x, hx, c7⟩ : ∃ x, (x = t.1 ∨ x = t.2) ∧ fIx (.ref q) (vN b) S2 = .ok (vN x) S2 := by
    have : b = 0 ∨ b = 1 := by omega
    rcases this with rfl | rfl
    · exact ⟨t.1, .inl rfl, fIx_tup hq2 rfl⟩
    · exact ⟨t.2, .inr rfl, fIx_tup hq2 rfl⟩
  have c8 := mAppend_LN (x := x) hf2 (by omega)
  refine ⟨x, some (.int z), hx, ?_⟩
  rw [← hS2]
  simp only [x_seq, x_asg, x_call, x_cons, x_op, x_nil, x_var, List.getElem?_cons_succ, List.getElem?_cons_zero, R.bind_ok, x_c, c1, c2, c3, hz, R.toO_ok, x_tgName, List.set, O.seq_nx, x_expr, x_bm, getL_LN hf, x_tup, ← hS2, c4, c5, c6, c7, c8]
theorem sharing_ok {S : Sto} {v : Va} {cs : List Int} {p n by_ : Nat} {ts : List (Nat × Nat)} (hv : getL S v = some (cs.map .int)) (hl : cs.length ≤ 63) (hb : ∀ z ∈ cs, bits z ≤ 1048576) (ht : TL S p n ts) (htl : ts.length = cs.length) (hby : by_ ≤ 1) :
    ∃ T k sh, i__law_sharing [v, .ref p, vN by_] S = .ok (.ref k) (S ++ T) ∧ (S ++ T)[k]? = some (LN sh) ∧ S.length ≤ k ∧ GS ts sh := by
  have hsum := sum_bits hb
  generalize hw : cs.sum = w at *
  obtain ⟨us, hp, hu⟩ := ht.ex
  have hul := Paired.len hu
  obtain ⟨S1, hS1⟩ : ∃ S1, S1 = S ++ [Ob.lst (cs.map .int)] := ⟨_, rfl⟩
  have hS1l : S1.length = S.length + 1 := by rw [hS1]; simp
  have hcell : S1[S.length]? = some (.lst (cs.map .int)) := by rw [hS1]; exact get_n0
  have hp1 : S1[p]? = some (.lst us) := by rw [hS1]; exact get_app hp
  have hu1 : Tks S1 us ts := by rw [hS1]; exact hu.app
  have c1 : fSum [.ref S.length] S1 = .ok (.int w) S1 := by
    simp only [fSum, getL_ref hcell, Option.bind_some, asIs_I, hw]
  obtain ⟨ρ', S', d1, sh, x6, x7, x8, d2, ⟨G, d3⟩, d4, d5⟩ := for_nx (chk := sameAt (S1 ++ [.lst []]) (.ref p)) (tg := tgTupN 2 [tgName 6, tgName 7]) (body := lsB)
    (fun k ρ S' => ∃ sh x6 x7 x8, ρ = [some v, some (.ref p), some (vN by_), some (.ref S.length), some (.int w), some (.ref S1.length), x6, x7, x8] ∧ (∃ G, S' = S1 ++ LN sh :: G) ∧ GS (ts.take k) sh ∧ sh.length = k) (enuI 0 us)
    [some v, some (.ref p), some (vN by_), some (.ref S.length), some (.int w), some (.ref S1.length), none, none, none] (S1 ++ [.lst []])
    ⟨[], none, none, none, rfl, ⟨[], rfl⟩, .nil, rfl⟩
    (fun j it ρ S' hj ⟨sh, x6, x7, x8, e1, ⟨G, e2⟩, e3, e4⟩ => by
      subst e1
      obtain ⟨x, z1, rfl⟩ := enuI_get0 hj
      obtain ⟨t, z2, q, rfl, hq⟩ := Paired.get hu1 z1
      have hjl : j < ts.length := (List.getElem?_eq_some_iff.mp z2).1
      have hcj : cs[j]? = some cs[j] := by simp [show j < cs.length by omega]
      have hf : S'[S1.length]? = some (LN sh) := by rw [e2]; exact get_n0
      obtain ⟨x, x8', q1, q2⟩ := ls_body (x0 := some v) (x1 := some (.ref p)) (x8 := x8) (j := j) (by_ := by_) (w := w) (p := S.length) (q := q) (t := t) (by rw [e2]; exact get_app hcell) hcj (hb _ (List.getElem_mem _)) (by omega) (by omega) hby (by rw [e2]; exact get_app hq) hf (by omega)
      refine ⟨by rw [e2]; exact sameAt_app2 hp1, _, _, rfl, _, _, q2, sh ++ [x], _, _, _, rfl, ⟨G ++ [.tup [.int 10007, .int 196613]], ?_⟩, ?_, by simp [e4]⟩
      · have : S1.length < S'.length := glt hf
        rw [List.set_append_left _ _ this, e2, set_n0, List.append_assoc]; rfl
      · rw [List.take_add_one, z2]
        exact Paired.append e3 (.cons q1 .nil))
    (fun ρ S' ⟨sh, x6, x7, x8, e1, ⟨G, e2⟩, _⟩ => by rw [e2]; exact sameAt_app2 hp1)
  rw [enuI_length, hul, List.take_length] at d4
  have lc : getL (S1 ++ [.lst []]) (.ref p) = some us := getL_ref (get_app hp1)
  refine ⟨[Ob.lst (cs.map .int), LN sh] ++ G, S1.length, sh, ?_, ?_, by omega, d4⟩
  · subst d2
    simp only [i__law_sharing, mk3, List.replicate]
    simp only [x_seq, x_asg, x_sl, x_var, List.getElem?_cons_zero, List.getElem?_cons_succ, R.bind_ok, x_noPart, x_part, x_c, hv, cut63 cs hl, R.toO_ok, x_tgName, List.set, O.seq_nx, ← hS1, x_cb, x_cons, x_nil, c1, x_lst, x_for, x_itEnum, lc, d1, x_ret, x_val_rt]
    rw [d3, hS1]
    simp
  · have : S ++ ([Ob.lst (cs.map .int), LN sh] ++ G) = S' := by rw [d3, hS1]; simp
    rw [this, d3]; exact get_n0
/-! ### the law's own loads, wholes, second -/
theorem law_loads_ok {S : Sto} {q n : Nat} {sh : List Nat} (hq : S[q]? = some (LN sh)) (hx : ∀ x ∈ sh, x < n) (hn : n ≤ 1000) : i__law_loads [vN n, .ref q] S = .ok (.ref (S.length + 1)) (S ++ [.lst [.int 0], LN (loadsN n sh)]) := by
  have hq' : ∀ T, (S ++ T)[q]? = some (LN sh) := fun T => get_app hq
  have c0 : fMul (.ref S.length) (vN n) (S ++ [.lst [.int 0]]) = .ok (.ref (S.length + 1)) (S ++ [.lst [.int 0], .lst (List.replicate n (.int 0))]) := by
    have := fMul_rep1 (S := S ++ [.lst [.int 0]]) (p := S.length) (n := n) get_n0 (by omega)
    rw [show vN n = .int n from rfl, this]; simp
  obtain ⟨ρ', S', h1, w, h2, h3⟩ := for_nx (chk := sameAt (S ++ [.lst [.int 0], .lst (List.replicate n (.int 0))]) (.ref q)) (tg := tgName 3) (body := sAsg (iOp fAdd (iOp fIx (iVar 2) (iVar 3)) (iC (.int 1))) (tgSub (iVar 2) (iVar 3)))
    (fun k ρ S' => ∃ w, ρ = [some (vN n), some (.ref q), some (.ref (S.length + 1)), w] ∧ S' = S ++ [.lst [.int 0], LN (loadsN n (sh.take k))]) ((sh.map vN).map .one) [some (vN n), some (.ref q), some (.ref (S.length + 1)), none] (S ++ [.lst [.int 0], .lst (List.replicate n (.int 0))])
    ⟨none, rfl, by rw [List.take_zero, loadsN_nil]; simp [LN, vN]⟩
    (fun j it ρ S' hj ⟨w, e1, e2⟩ => by
      subst e1 e2
      obtain ⟨v, z1, rfl⟩ := map_one_get hj
      obtain ⟨x, z2, rfl⟩ := map_get z1
      have hxn : x < n := hx x (List.mem_of_getElem? z2)
      refine ⟨sameAt_app2 hq, _, _, rfl, [some (vN n), some (.ref q), some (.ref (S.length + 1)), some (vN x)], S ++ [.lst [.int 0], LN (loadsN n (sh.take (j + 1)))], ?_, _, rfl, rfl⟩
      have hl : (S ++ [Ob.lst [Va.int 0], LN (loadsN n (sh.take j))])[S.length + 1]? = some (.lst ((loadsN n (sh.take j)).map vN)) := get_n1
      have g1 := fIx_lst (k := x) hl (vN_get (loadsN_get hxn))
      have g2 := setL_lst (k := x) (v := vN ((sh.take j).count x + 1)) hl (by rw [List.length_map, loadsN_length]; exact hxn)
      rw [LN_set, ← loadsN_snoc hxn, set_n1] at g2
      have e : sh.take j ++ [x] = sh.take (j + 1) := by rw [List.take_add_one, z2]; rfl
      rw [e] at g2
      have g1' : fIx (.ref (S.length + 1)) (vN x) (S ++ [Ob.lst [Va.int 0], LN (loadsN n (sh.take j))]) = .ok (.int ((sh.take j).count x : Nat)) (S ++ [Ob.lst [Va.int 0], LN (loadsN n (sh.take j))]) := g1
      have g2' : setL (.ref (S.length + 1)) (vN x) (.int (((sh.take j).count x : Nat) + 1)) (S ++ [Ob.lst [Va.int 0], LN (loadsN n (sh.take j))]) = .ok () (S ++ [Ob.lst [Va.int 0], LN (loadsN n (sh.take (j + 1)))]) := g2
      simp [g1', g2'])
    (fun ρ S' ⟨w, e1, e2⟩ => by subst e2; exact sameAt_app2 hq)
  rw [List.length_map, List.length_map, List.take_length] at h3
  subst h2 h3
  simp only [i__law_loads, mk2, List.replicate]
  simp [c0, getL, hq', LN] at h1 ⊢
  simp [h1]
theorem wholes_ok {S : Sto} {q : Nat} {xs : List Int} (hq : S[q]? = some (.lst (xs.map .int))) (hl : xs.length ≤ 100000) : i__law_wholes [.ref q] S = .ok (.bl true) (S ++ [.lst (xs.map fun _ => .bl true)]) := by
  have c1 := lcr_run0 (ii := itList (iVar 0)) (tg := tgName 1) (tt := iYes) (ie := iAndV (iCB fIsi (iCons (iVar 1) (iCons (iC (.ty "int")) iNil))) (iNotV (iCB fIsi (iCons (iVar 1) (iCons (iC (.ty "bool")) iNil))))) (vs := [1]) (ρ := [some (.ref q), none]) (S := S) (its := (xs.map .int).map .one) (os := xs.map fun x => some (.bl true)) (chk := sameAt S (.ref q))
    (by simp [getL_ref hq]) (by simp; exact hl) sameAt_self (Paired.of_get (by simp) fun k it o h1 h2 => by
      obtain ⟨v, e1, rfl⟩ := map_one_get h1
      obtain ⟨x, e2, rfl⟩ := map_get e1
      obtain ⟨x', e3, rfl⟩ := map_get h2
      refine ⟨_, rfl, rfl, fun y hy => ?_⟩
      cases hy
      simp [tyB, kit_ii, kit_ib])
  rw [fmap_some] at c1
  have b1 := asBs_B (fun _ : Int => true) xs
  simp only [i__law_wholes, mk1, List.replicate]
  simp [tyB, hq, kit_ll] at c1 ⊢
  simp [c1, fAll, getL_ref get_n0, b1]
theorem second_ok {S : Sto} {q : Nat} {a b : Nat} {x : Nat} (hq : S[q]? = some (.tup [vN a, vN b])) (hx : x = a ∨ x = b) : i__law_second [.ref q, vN x] S = .ok (vN (a + b - x)) S := by
  have c1 : fIx (.ref q) (.int 0) S = .ok (vN a) S := fIx_tup (k := 0) hq rfl
  have c2 : fIx (.ref q) (.int 1) S = .ok (vN b) S := fIx_tup (k := 1) hq rfl
  simp only [i__law_second, mk2, List.replicate]
  simp [c1, c2, vN]
  omega
end IL

end
section
set_option linter.all false
set_option maxRecDepth 100000
set_option maxHeartbeats 1000000
namespace IL
open PySem L2
theorem sec2_law : Sec2 i__law_second := fun S q a b x h hx => second_ok h hx
theorem law_people_ok {S : Sto} {l n : Nat} {xs : List Int} (hx : S[l]? = some (.lst (xs.map .int))) (hl : xs.length < 64) : ∃ T, i__law_people [.ref l, vN n] S = .ok (.bl (pplB xs n)) (S ++ T) := by
  have w := wholes_ok (S := S) hx (by omega)
  obtain ⟨S1, hS1⟩ : ∃ S1, S1 = S ++ [Ob.lst (xs.map fun _ => .bl true)] := ⟨_, rfl⟩
  rw [← hS1] at w
  obtain ⟨T, h⟩ := pplE_ok (S := S1) (n := n) (by rw [hS1]; exact get_app hx) hl
  refine ⟨[Ob.lst (xs.map fun _ => .bl true)] ++ T, ?_⟩
  rw [← List.append_assoc, ← hS1]
  simp only [i__law_people, mk2, List.replicate]
  unfold pplE at h
  rw [x_ret, x_andV]
  simp only [x_call, x_cons, x_nil, x_var, List.getElem?_cons_succ, List.getElem?_cons_zero, R.bind_ok, w, x_asB, if_true]
  rw [h]
  rfl
theorem isiC {S : Sto} {k : Nat} {c d : Str} {fs : List (Str × Va)} (h : S[k]? = some (.obj c fs)) (hc : c ∈ clsL) (hd : d ∈ clsL) : fIsiC [.ref k, .gl d] S = .ok (.bl (isSub c d)) S := by
  have : c ∈ clsL ∧ d ∈ clsL := ⟨hc, hd⟩
  simp only [fIsiC, h, this, and_self, if_true]
theorem due_chain {S : Sto} {k l p q e near far n : Nat} {xs : List Int} {vs : List Va} {ts : List (Nat × Nat)} {an : List Nat} (hk : S[k]? = some (.obj "Chain" [("tasks", .ref l)])) (hxl : S[l]? = some (.lst (xs.map .int))) (he : S[e]? = some (.tup [vN near, vN far])) (hp : S[p]? = some (.lst vs)) (ht : Tks S vs ts) (hq : S[q]? = some (LN an)) (hg : GS ts an) (hl : xs.length < 900) :
    ∃ T, i__law_due [vN n, .ref p, .ref q, .ref e, .ref k] S = .ok (.bl (chB ts an near far xs)) (S ++ T) := by
  obtain ⟨S1, hS1⟩ : ∃ S1, S1 = S ++ [LN [near]] := ⟨_, rfl⟩
  have hS1' : S1 = S ++ [Ob.lst [vN near]] := hS1
  have hfl : ∀ ρ : Env, ρ[4]? = some (some (.ref k)) → iFld (iVar 4) "tasks" ρ S1 = .ok (.ref l) S1 := fun ρ hρ => by
    rw [hS1]; exact fld_ok (by simp only [x_var, hρ]) (get_app hk) (by decide +kernel) lk1
  have e0 : ∀ T, fIx (.ref e) (.int 0) (S ++ T) = .ok (vN near) (S ++ T) := fun T => fIx_tup (k := 0) (get_app he) rfl
  have e1 : ∀ T, fIx (.ref e) (.int 1) (S ++ T) = .ok (vN far) (S ++ T) := fun T => fIx_tup (k := 1) (get_app he) rfl
  have e0' : fIx (.ref e) (.int 0) S = .ok (vN near) S := fIx_tup (k := 0) he rfl
  have is1 : fIsiC [.ref k, .gl "Side"] S = .ok (.bl false) S := by rw [isiC hk (by decide +kernel) (by decide +kernel)]; rfl
  have hlp := ch_loop (f := i__law_second) (ρ := [some (vN n), some (.ref p), some (.ref q), some (.ref e), some (.ref k), none, some (.ref S.length), none, none, none]) (vt := 1) (vsh := 2) (va := 7) (vc := 6) (near := near) sec2_law hp ht hq hg hxl rfl rfl rfl hl (by decide) (by decide) (by decide) (by simp)
  rw [← hS1] at hlp
  have hB : (sSeq (sIf (iOr (iNot (iB (iChain fLe fLt (iC (.int 0)) (iVar 7) (iCB fLen (iCons (iVar 1) iNil))))) (iB (iOp fNe (iOp fIx (iVar 2) (iVar 7)) (iOp fIx (iVar 6) (iUn fNeg (iC (.int 1))))))) (sRet (iC (.bl false))) sNext)
  (sExpr (iBM mAppend (iVar 6) (iCons (iCall i__law_second (iCons (iOp fIx (iVar 1) (iVar 7)) (iCons (iOp fIx (iVar 6) (iUn fNeg (iC (.int 1)))) iNil))) iNil)))) = chBody 1 2 7 6 i__law_second := rfl
  have l1 : getL S1 (.ref l) = some (xs.map .int) := by rw [hS1]; exact getL_ref (get_app hxl)
  simp only [i__law_due, mkFn, List.length_cons, List.length_nil, if_true, List.map_cons, List.map_nil, hB, List.cons_append, List.nil_append, Nat.reduceAdd, Nat.reduceSub, List.replicate]
  simp only [x_seq, x_sif, x_B, x_cb, x_cons, x_nil, x_c, x_var, List.getElem?_cons_succ, List.getElem?_cons_zero, R.bind_ok, is1, x_asB, R.toO_ok, Bool.false_eq_true, if_false, x_next, O.seq_nx]
  simp only [x_seq, x_asg, x_lst, x_cons, x_nil, x_op, x_c, e0', x_var, List.getElem?_cons_succ, List.getElem?_cons_zero, R.bind_ok, R.toO_ok, x_tgName, List.set, ← hS1', O.seq_nx, x_for, x_itList, hfl, l1]
  unfold chB
  cases hc : chF ts an near xs with
  | none =>
    rw [hc] at hlp
    obtain ⟨S', h⟩ := hlp
    rw [h]
    exact ⟨S', rfl⟩
  | some pb =>
    obtain ⟨pre, b⟩ := pb
    rw [hc] at hlp
    obtain ⟨ρ', h, hρ, hpl⟩ := hlp
    rw [h]
    have r6 : ρ'[6]? = some (some (.ref S.length)) := hρ 6 (by decide)
    have r3 : ρ'[3]? = some (some (.ref e)) := hρ 3 (by decide)
    have c0 : (S ++ [LN (pre ++ [b])])[S.length]? = some (LN (pre ++ [b])) := get_n0
    have ng : fNeg (.int 1) (S ++ [LN (pre ++ [b])]) = .ok (.int (-1)) (S ++ [LN (pre ++ [b])]) := rfl
    refine ⟨[LN (pre ++ [b])], ?_⟩
    have c3 := fLenSet_N c0 (by simp; omega)
    have c4 := fLen_N c0
    simp only [O.seq_nx, x_ret, x_andV, x_op, x_var, r6, r3, R.bind_ok, x_un, x_c, ng, last_ix' c0, e1, fEq_NN, x_asB]
    by_cases hb : b = far
    · simp only [decide_eq_true hb, if_true, x_cb, x_cons, x_nil, x_var, r6, R.bind_ok, c3, c4, fEq_NN, R.toO_ok, x_val_rt, Bool.true_and]
      rfl
    · simp only [decide_eq_false hb, Bool.false_eq_true, if_false, R.toO_ok, x_val_rt, Bool.false_and]
end IL

end
section
set_option linter.all false
set_option maxRecDepth 100000
set_option maxHeartbeats 1000000
namespace IL
open PySem L2
theorem due_side {S : Sto} {k l p q e near far n : Nat} {xs : List Int} {vs : List Va} {ts : List (Nat × Nat)} {an : List Nat} (hk : S[k]? = some (.obj "Side" [("some", .ref l)])) (hxl : S[l]? = some (.lst (xs.map .int))) (he : S[e]? = some (.tup [vN near, vN far])) (hp : S[p]? = some (.lst vs)) (ht : Tks S vs ts) (hq : S[q]? = some (LN an)) (hg : GS ts an) (hl : xs.length < 64) (hal : an.length ≤ 900) :
    ∃ T, i__law_due [vN n, .ref p, .ref q, .ref e, .ref k] S = .ok (.bl (sideB n ts an near far xs)) (S ++ T) := by
  have hlv := Paired.len ht
  have hla := Paired.len hg
  have fl : ∀ (ρ : Env), ρ[4]? = some (some (.ref k)) → iFld (iVar 4) "some" ρ S = .ok (.ref l) S := fun ρ h => fld_ok (by simp only [x_var, h]) hk (by decide +kernel) lk1
  obtain ⟨T1, c1⟩ := law_people_ok (n := n) hxl hl
  have is1 : fIsiC [.ref k, .gl "Side"] S = .ok (.bl true) S := by rw [isiC hk (by decide +kernel) (by decide +kernel)]; rfl
  have e0 : fIx (.ref e) (.int 0) (S ++ T1) = .ok (vN near) (S ++ T1) := fIx_tup (k := 0) (get_app he) rfl
  have e1 : fIx (.ref e) (.int 1) (S ++ T1) = .ok (vN far) (S ++ T1) := fIx_tup (k := 1) (get_app he) rfl
  have i1 : fIn true (vN near) (.ref l) (S ++ T1) = .ok (.bl (!decide ((near : Int) ∈ xs))) (S ++ T1) := fIn_T (get_app hxl)
  have i2 : fIn false (vN far) (.ref l) (S ++ T1) = .ok (.bl (decide ((far : Int) ∈ xs))) (S ++ T1) := fIn_F (get_app hxl)
  unfold sideB
  simp only [i__law_due, mkFn, List.length_cons, List.length_nil, if_true, List.map_cons, List.map_nil, List.cons_append, List.nil_append, Nat.reduceAdd, Nat.reduceSub, List.replicate]
  rw [x_seq, x_sif]
  simp only [x_B, x_cb, x_cons, x_nil, x_c, x_var, List.getElem?_cons_succ, List.getElem?_cons_zero, R.bind_ok, is1, x_asB, R.toO_ok, if_true]
  rw [x_seq, x_asg]
  rw [fl _ rfl]
  simp only [R.toO_ok, x_tgName, List.set, O.seq_nx]
  rw [x_seq, x_sif]
  simp only [x_or, x_not, x_B, x_call, x_cons, x_nil, x_var, List.getElem?_cons_succ, List.getElem?_cons_zero, R.bind_ok, c1, x_asB]
  cases hb1 : pplB xs n with
  | false => exact ⟨T1, by simp only [Bool.not_false, if_true, R.toO_ok, x_ret, x_c, O.seq_rt, x_val_rt, Bool.false_and]⟩
  | true =>
    simp only [Bool.not_true, Bool.false_eq_true, if_false, x_op, x_var, x_c, e0, List.getElem?_cons_succ, List.getElem?_cons_zero, R.bind_ok, i1, x_asB]
    by_cases hn : (near : Int) ∈ xs
    · simp only [decide_eq_true hn, Bool.not_true, Bool.false_eq_true, if_false, R.bind_ok, e1, i2, x_asB, R.toO_ok]
      by_cases hf : (far : Int) ∈ xs
      · exact ⟨T1, by simp only [decide_eq_true hf, if_true, x_ret, x_c, R.toO_ok, O.seq_rt, x_val_rt, Bool.not_true, Bool.false_and, Bool.and_false]⟩
      · simp only [decide_eq_false hf, Bool.false_eq_true, if_false, x_next, O.seq_nx]
        have c2 := lcr_run0 (ii := itZip (iVar 1) (iVar 2)) (tg := tgTupN 2 [(tgName 8), (tgName 9)]) (tt := iYes) (ie := iOrV (iOp (fIn true) (iVar 9) (iVar 5)) (iOp (fIn false) (iCall i__law_second (iCons (iVar 8) (iCons (iVar 9) iNil))) (iVar 5))) (vs := [8, 9]) (ρ := [some (vN n), some (.ref p), some (.ref q), some (.ref e), some (.ref k), some (.ref l), none, none, none, none]) (S := S ++ T1)
          (its := zipI vs (an.map vN)) (os := (List.range an.length).map fun t => some (.bl (!bad ts an xs t))) (chk := fun S' => sameAt (S ++ T1) (.ref p) S' && sameAt (S ++ T1) (.ref q) S')
          (by simp only [x_itZip, x_var, List.getElem?_cons_succ, List.getElem?_cons_zero, R.bind_ok, getL_LN (get_app hq), getL_ref (get_app hp)]) (by rw [zipI_length, List.length_map]; omega) (by simp [sameAt_self]) (Paired.of_get (by rw [zipI_length, List.length_map, List.length_map, List.length_range]; omega) fun j it o h1 h2 => by
            obtain ⟨v, w', z1, z0, rfl⟩ := zipI_get _ _ _ _ h1
            obtain ⟨x, z2, rfl⟩ := map_get z0
            obtain ⟨t, z3, rfl⟩ := map_get h2
            have htj : t = j := by
              obtain ⟨u1, u2⟩ := List.getElem?_eq_some_iff.mp z3
              rw [List.getElem_range] at u2; omega
            subst htj
            have hx : an.getD t 0 = x := by simp [List.getD, z2]
            obtain ⟨w, a, b, g1, g2, g3, g4⟩ := task_at ht hg z2
            rw [g1] at z1; cases z1
            have d2 : i__law_second [.ref w, vN x] (S ++ T1) = .ok (vN (sec ts t x)) (S ++ T1) := by rw [g4]; exact second_ok (get_app g2) g3
            have d3 : fIn true (vN x) (.ref l) (S ++ T1) = .ok (.bl (!decide ((x : Int) ∈ xs))) (S ++ T1) := fIn_T (get_app hxl)
            have d4 : fIn false (vN (sec ts t x)) (.ref l) (S ++ T1) = .ok (.bl (decide (((sec ts t x : Nat) : Int) ∈ xs))) (S ++ T1) := fIn_F (get_app hxl)
            refine ⟨_, rfl, rfl, fun y hy => ?_⟩
            cases hy
            simp only [x_orV, x_op, x_wipe1, x_wipe0, List.set, x_var, List.getElem?_cons_succ, List.getElem?_cons_zero, R.bind_ok, d3, x_asB]
            unfold bad
            rw [hx]
            by_cases hm : (x : Int) ∈ xs
            · simp only [decide_eq_true hm, Bool.not_true, Bool.false_eq_true, if_false, x_call, x_cons, x_nil, x_op, x_var, List.getElem?_cons_succ, List.getElem?_cons_zero, R.bind_ok, d2, d4, Bool.true_and, Bool.not_not]
            · simp only [decide_eq_false hm, Bool.not_false, if_true, Bool.false_and])
        rw [fmap_some] at c2
        have b2 := asBs_B (fun t : Nat => !bad ts an xs t) (List.range an.length)
        refine ⟨T1 ++ [.lst ((List.range an.length).map fun t => .bl (!bad ts an xs t))], ?_⟩
        rw [← List.append_assoc]
        simp only [x_ret, x_cb, x_cons, x_nil, c2, R.bind_ok, fAll, getL_ref get_n0, Option.bind_some, b2, R.toO_ok, O.seq_rt, x_val_rt, List.all_map, Bool.not_false, Bool.true_and]
        rfl
    · exact ⟨T1, by simp only [decide_eq_false hn, Bool.not_false, if_true, R.toO_ok, x_ret, x_c, O.seq_rt, x_val_rt, Bool.false_and, Bool.and_false]⟩
end IL

end
section
set_option linter.all false
set_option maxRecDepth 100000
set_option maxHeartbeats 1000000
namespace IL
open PySem L2
/-! ### _law_leads -/
def DB (ks : List Nat) : Ob := .dic (ks.map fun (k : Nat) => ((k : Int), Va.bl true))
theorem lkB (ks : List Nat) (k : Nat) : (lkD (ks.map fun (k : Nat) => ((k : Int), Va.bl true)) (k : Int)).isSome = decide (k ∈ ks) := by
  unfold lkD
  rw [Option.isSome_map]
  by_cases h : k ∈ ks
  · rw [decide_eq_true h, List.find?_isSome]
    exact ⟨_, List.mem_map.mpr ⟨k, h, rfl⟩, by simp⟩
  · rw [decide_eq_false h]
    cases hf : (ks.map fun (k : Nat) => ((k : Int), Va.bl true)).find? fun e => decide (e.1 = (k : Int)) with
    | none => rfl
    | some e =>
      have h1 := List.mem_of_find?_eq_some hf
      have h2 := List.find?_some hf
      obtain ⟨y, h3, rfl⟩ := List.mem_map.mp h1
      simp at h2
      have : y = k := by omega
      exact absurd (this ▸ h3) h
theorem putB {ks : List Nat} {k : Nat} (h : k ∉ ks) : putD (ks.map fun (k : Nat) => ((k : Int), Va.bl true)) (k : Int) (.bl true) = (ks ++ [k]).map fun (k : Nat) => ((k : Int), Va.bl true) := by
  unfold putD
  rw [if_neg]
  · rw [List.map_append]; rfl
  · intro z
    rw [List.any_eq_true] at z
    obtain ⟨e, h1, h2⟩ := z
    obtain ⟨e', h3, rfl⟩ := List.mem_map.mp h1
    simp at h2
    exact h (by have : e' = k := by omega
                exact this ▸ h3)
theorem getD_DB {S : Sto} {d : Nat} {ks : List Nat} (h : S[d]? = some (DB ks)) : getD S (.ref d) = some (ks.map fun (k : Nat) => ((k : Int), Va.bl true)) := by simp [getD, h, DB]
theorem din_B {ρ : Env} {S : Sto} {a b : IE} {neg : Bool} {d k : Nat} {ks : List Nat} (ha : a ρ S = .ok (vN k) S) (hb : b ρ S = .ok (.ref d) S) (h : S[d]? = some (DB ks)) : iDIn neg a b ρ S = .ok (.bl (if neg then !decide (k ∈ ks) else decide (k ∈ ks))) S := by
  have e := lkB ks k
  simp only [x_din, ha, hb, R.bind_ok, getD_DB h, vN, e]
theorem dset_B {ρ : Env} {S : Sto} {d k e : IE} {a y : Nat} {ks : List Nat} (he : e ρ S = .ok (.bl true) S) (hd : d ρ S = .ok (.ref a) S) (hk : k ρ S = .ok (vN y) S) (ha : S[a]? = some (DB ks)) (hl : ks.length < 1000) (hn : y ∉ ks) : sDSet d k e ρ S = .nx ρ (S.set a (DB (ks ++ [y]))) := by
  have ha' : S[a]? = some (.dic (ks.map fun (k : Nat) => ((k : Int), Va.bl true))) := ha
  have d2 : (ks.map fun (k : Nat) => ((k : Int), Va.bl true)).length < 100000 := by rw [List.length_map]; omega
  simp only [x_dset, he, hd, hk, R.toO_ok, vN, ha', d2, if_true]
  rw [putB hn]
  rfl
/-- whom things can reach -/
def Rch (ts : List (Nat × Nat)) (sh : List Nat) (one k : Nat) : Prop := ∀ C : Nat → Prop, C one → (∀ t q, sh[t]? = some q → C q → C (sec ts t q)) → C k
structure LK (ts : List (Nat × Nat)) (sh : List Nat) (n one : Nat) (ks : List Nat) : Prop where
  nd : ks.Nodup
  lt : ∀ x ∈ ks, x < n
  rc : ∀ x ∈ ks, Rch ts sh one x
  on : one ∈ ks
noncomputable abbrev ldIn : IS := (sIf (iAnd (iB (iDIn false (iVar 6) (iVar 3))) (iB (iDIn true (iCall i__law_second (iCons (iVar 5) (iCons (iVar 6) iNil))) (iVar 3)))) (sSeq (sDSet (iVar 3) (iCall i__law_second (iCons (iVar 5) (iCons (iVar 6) iNil))) (iC (.bl true)))
  (sAsg (iC (.bl true)) (tgName 4))) sNext)
theorem ld_one {S : Sto} {n p q e one i x w a b : Nat} {mo : Bool} {ts : List (Nat × Nat)} {sh ks : List Nat} (hw : S[w]? = some (.tup [vN a, vN b])) (hx : x = a ∨ x = b) (hs : sec ts i x = a + b - x) (hi : sh[i]? = some x) (hsn : sec ts i x < n) (hn : n ≤ 60) (lk : LK ts sh n one ks) :
    ∃ ks' mo', ldIn [some (.ref p), some (.ref q), some (.ref e), some (.ref S.length), some (.bl mo), some (.ref w), some (vN x)] (S ++ [DB ks]) = .nx [some (.ref p), some (.ref q), some (.ref e), some (.ref S.length), some (.bl mo'), some (.ref w), some (vN x)] (S ++ [DB ks']) ∧ LK ts sh n one ks' ∧
      ((ks' = ks ∧ mo' = mo ∧ (x ∈ ks → sec ts i x ∈ ks)) ∨ (ks' = ks ++ [sec ts i x] ∧ mo' = true)) := by
  have c0 : (S ++ [DB ks])[S.length]? = some (DB ks) := get_n0
  have c1 : i__law_second [.ref w, vN x] (S ++ [DB ks]) = .ok (vN (sec ts i x)) (S ++ [DB ks]) := by rw [hs]; exact second_ok (get_app hw) hx
  have d1 := din_B (ρ := [some (.ref p), some (.ref q), some (.ref e), some (.ref S.length), some (.bl mo), some (.ref w), some (vN x)]) (neg := false) (a := iVar 6) (b := iVar 3) (k := x) rfl rfl c0
  have ce : (iCall i__law_second (iCons (iVar 5) (iCons (iVar 6) iNil))) [some (.ref p), some (.ref q), some (.ref e), some (.ref S.length), some (.bl mo), some (.ref w), some (vN x)] (S ++ [DB ks]) = .ok (vN (sec ts i x)) (S ++ [DB ks]) := by
    simp only [x_call, x_cons, x_nil, x_var, List.getElem?_cons_succ, List.getElem?_cons_zero, R.bind_ok, c1]
  have d2 := din_B (ρ := [some (.ref p), some (.ref q), some (.ref e), some (.ref S.length), some (.bl mo), some (.ref w), some (vN x)]) (neg := true) (b := iVar 3) ce rfl c0
  simp only [Bool.false_eq_true, if_false] at d1
  simp only [if_true] at d2
  by_cases hm : x ∈ ks
  · rw [decide_eq_true hm] at d1
    by_cases hm2 : sec ts i x ∈ ks
    · rw [decide_eq_true hm2] at d2
      exact ⟨ks, mo, by simp only [ldIn, x_sif, x_and, x_B, d1, d2, R.bind_ok, x_asB, if_true, Bool.not_true, R.toO_ok, Bool.false_eq_true, if_false, x_next], lk, .inl ⟨rfl, rfl, fun _ => hm2⟩⟩
    · rw [decide_eq_false hm2] at d2
      have hkl := nodup_len lk.nd lk.lt
      have d3 := dset_B (ρ := [some (.ref p), some (.ref q), some (.ref e), some (.ref S.length), some (.bl mo), some (.ref w), some (vN x)]) (d := iVar 3) (e := iC (.bl true)) rfl rfl ce c0 (by omega) hm2
      rw [set_n0] at d3
      refine ⟨ks ++ [sec ts i x], true, ?_, ⟨?_, ?_, ?_, List.mem_append_left _ lk.on⟩, .inr ⟨rfl, rfl⟩⟩
      · simp only [ldIn, x_sif, x_and, x_B, d1, d2, R.bind_ok, x_asB, if_true, Bool.not_false, R.toO_ok, x_seq, d3, O.seq_nx, x_asg, x_c, x_tgName, List.set]
      · rw [List.nodup_append]
        exact ⟨lk.nd, by simp, fun a ha b hb => by rw [List.mem_singleton] at hb; rintro rfl; exact hm2 (hb ▸ ha)⟩
      · intro y hy
        rcases List.mem_append.mp hy with z | z
        · exact lk.lt y z
        · rw [List.mem_singleton] at z; omega
      · intro y hy
        rcases List.mem_append.mp hy with z | z
        · exact lk.rc y z
        · rw [List.mem_singleton] at z
          subst z
          exact fun C h1 h2 => h2 i x hi (lk.rc x hm C h1 h2)
  · rw [decide_eq_false hm] at d1
    exact ⟨ks, mo, by simp only [ldIn, x_sif, x_and, x_B, d1, R.bind_ok, x_asB, R.toO_ok, Bool.false_eq_true, if_false, x_next], lk, .inl ⟨rfl, rfl, fun z => absurd z hm⟩⟩
end IL

end
section
set_option linter.all false
set_option maxRecDepth 100000
set_option maxHeartbeats 1000000
namespace IL
open PySem L2
theorem leads_ok {S : Sto} {n p q e one other : Nat} {vs : List Va} {ts : List (Nat × Nat)} {sh : List Nat} (hp : S[p]? = some (.lst vs)) (ht : Tks S vs ts) (hgt : GT n ts) (hq : S[q]? = some (LN sh)) (hg : GS ts sh) (he : S[e]? = some (.tup [vN one, vN other])) (h1 : one < n) (hn : n ≤ 60) :
    ∃ (T : Sto) (ks : List Nat), i__law_leads [.ref p, .ref q, .ref e] S = .ok (.bl (decide (other ∈ ks))) (S ++ T) ∧ (∀ x ∈ ks, Rch ts sh one x) ∧ one ∈ ks ∧ ∀ t k, sh[t]? = some k → k ∈ ks → sec ts t k ∈ ks := by
  have hlv := Paired.len ht
  have hla := Paired.len hg
  -- one pass
  have pass : ∀ (ks : List Nat) (x5 x6 : Option Va), LK ts sh n one ks → ∃ ks' mo' y5 y6, forL (fun S' => sameAt (S ++ [DB ks]) (.ref p) S' && sameAt (S ++ [DB ks]) (.ref q) S') (tgTupN 2 [(tgName 5), (tgName 6)]) ldIn (zipI vs (sh.map vN)) [some (.ref p), some (.ref q), some (.ref e), some (.ref S.length), some (.bl false), x5, x6] (S ++ [DB ks]) =
      .nx [some (.ref p), some (.ref q), some (.ref e), some (.ref S.length), some (.bl mo'), y5, y6] (S ++ [DB ks']) ∧ LK ts sh n one ks' ∧ ((mo' = false ∧ ks' = ks ∧ ∀ t k, sh[t]? = some k → k ∈ ks → sec ts t k ∈ ks) ∨ (mo' = true ∧ ks.length < ks'.length)) := by
    intro ks x5 x6 lk
    obtain ⟨ρ', S', f1, ks', mo', y5, y6, rfl, rfl, lk', hor⟩ := for_nx (chk := fun S' => sameAt (S ++ [DB ks]) (.ref p) S' && sameAt (S ++ [DB ks]) (.ref q) S') (tg := tgTupN 2 [(tgName 5), (tgName 6)]) (body := ldIn)
      (fun j ρ S' => ∃ ks' mo' y5 y6, ρ = [some (.ref p), some (.ref q), some (.ref e), some (.ref S.length), some (.bl mo'), y5, y6] ∧ S' = S ++ [DB ks'] ∧ LK ts sh n one ks' ∧ ((mo' = false ∧ ks' = ks ∧ ∀ t, t < j → ∀ k, sh[t]? = some k → k ∈ ks → sec ts t k ∈ ks) ∨ (mo' = true ∧ ks.length < ks'.length)))
      (zipI vs (sh.map vN)) [some (.ref p), some (.ref q), some (.ref e), some (.ref S.length), some (.bl false), x5, x6] (S ++ [DB ks]) ⟨ks, false, x5, x6, rfl, rfl, lk, .inl ⟨rfl, rfl, fun t h => by omega⟩⟩
      (fun j it ρ S' e' ⟨ks1, mo1, z5, z6, e1, e2, lk1, hor⟩ => by
        subst e1 e2
        obtain ⟨v, w', z1, z0, rfl⟩ := zipI_get _ _ _ _ e'
        obtain ⟨x, z2, rfl⟩ := map_get z0
        obtain ⟨w, a, b, g1, g2, g3, g4⟩ := task_at ht hg z2
        rw [g1] at z1; cases z1
        obtain ⟨ks2, mo2, k1, k2, k3⟩ := ld_one (p := p) (q := q) (e := e) (mo := mo1) g2 g3 g4 z2 (sec_lt hgt hg.gp z2).1 hn lk1
        refine ⟨by simp only [sameAt_app2 hp, sameAt_app2 hq, Bool.and_self], _, _, rfl, _, _, k1, ks2, mo2, _, _, rfl, rfl, k2, ?_⟩
        rcases k3 with ⟨rfl, rfl, k4⟩ | ⟨rfl, rfl⟩
        · rcases hor with ⟨h1, rfl, h3⟩ | h
          · refine .inl ⟨h1, rfl, fun t htj k ek hk => ?_⟩
            by_cases htj2 : t = j
            · subst htj2; rw [z2] at ek; cases ek; exact k4 hk
            · exact h3 t (by omega) k ek hk
          · exact .inr h
        · refine .inr ⟨rfl, ?_⟩
          rw [List.length_append, List.length_singleton]
          rcases hor with ⟨_, rfl, _⟩ | ⟨_, h⟩ <;> omega)
      (fun ρ S' ⟨ks1, mo1, z5, z6, e1, e2, _⟩ => by subst e2; simp only [sameAt_app2 hp, sameAt_app2 hq, Bool.and_self])
    refine ⟨ks', mo', y5, y6, f1, lk', ?_⟩
    rcases hor with ⟨h1, h2, h3⟩ | h
    · refine .inl ⟨h1, h2, fun t k ek hk => h3 t ?_ k ek hk⟩
      rw [zipI_length, List.length_map]
      have := (List.getElem?_eq_some_iff.mp ek).1
      omega
    · exact .inr h
  have wh : ∃ (ρ' : Env) (ks : List Nat), sWhile (iB (iVar 4)) (sSeq (sAsg (iC (.bl false)) (tgName 4)) (sFor (itZip (iVar 0) (iVar 1)) (tgTupN 2 [(tgName 5), (tgName 6)]) ldIn)) [some (.ref p), some (.ref q), some (.ref e), some (.ref S.length), some (.bl true), none, none] (S ++ [DB [one]]) = .nx ρ' (S ++ [DB ks]) ∧ ρ'[2]? = some (some (.ref e)) ∧ ρ'[3]? = some (some (.ref S.length)) ∧ LK ts sh n one ks ∧ ∀ t k, sh[t]? = some k → k ∈ ks → sec ts t k ∈ ks := by
    refine while_rule (G := fun o => ∃ (ρ' : Env) (ks : List Nat), o = .nx ρ' (S ++ [DB ks]) ∧ ρ'[2]? = some (some (.ref e)) ∧ ρ'[3]? = some (some (.ref S.length)) ∧ LK ts sh n one ks ∧ ∀ t k, sh[t]? = some k → k ∈ ks → sec ts t k ∈ ks) (by rintro ⟨_, _, z, _⟩; cases z)
      (fun m ρ S' => ∃ (ks : List Nat) (mo : Bool) (x5 x6 : Option Va), ρ = [some (.ref p), some (.ref q), some (.ref e), some (.ref S.length), some (.bl mo), x5, x6] ∧ S' = S ++ [DB ks] ∧ LK ts sh n one ks ∧ (mo = false → ∀ t k, sh[t]? = some k → k ∈ ks → sec ts t k ∈ ks) ∧ m = (if mo = true then n - ks.length + 1 else 0))
      (fun m ρ S' ⟨ks, mo, x5, x6, e1, e2, lk, hc, hm⟩ => ?_) (m := n - 1 + 1) ⟨[one], true, none, none, rfl, rfl, ⟨by simp, fun x hx => by simp at hx; omega, fun x hx => by simp at hx; subst hx; exact fun C h _ => h, by simp⟩, (fun z => by cases z), by simp⟩
    subst e1 e2
    refine ⟨mo, S ++ [DB ks], by simp only [x_B, x_var, List.getElem?_cons_succ, List.getElem?_cons_zero, R.bind_ok, x_asB], fun hb => ⟨_, ks, rfl, rfl, rfl, lk, hc hb⟩, fun hb => ?_⟩
    subst hb
    obtain ⟨ks', mo', y5, y6, f1, lk', hor⟩ := pass ks x5 x6 lk
    have l1 : getL (S ++ [DB ks]) (.ref p) = some vs := getL_ref (get_app hp)
    have l2 : getL (S ++ [DB ks]) (.ref q) = some (sh.map vN) := getL_LN (get_app hq)
    simp only [x_seq, x_asg, x_c, R.toO_ok, x_tgName, List.set, O.seq_nx, x_for, x_itZip, x_var, List.getElem?_cons_succ, List.getElem?_cons_zero, R.bind_ok, l1, l2, f1]
    have hk1 := nodup_len lk'.nd lk'.lt
    have hk2 := nodup_len lk.nd lk.lt
    refine ⟨_, ?_, ks', mo', y5, y6, rfl, rfl, lk', ?_, rfl⟩
    · rw [hm]
      rcases hor with ⟨h1, _, _⟩ | ⟨h1, h2⟩
      · rw [h1]; simp
      · rw [h1]; simp; omega
    · intro hmo
      rcases hor with ⟨_, h2, h3⟩ | ⟨h1, _⟩
      · rw [h2]; exact h3
      · rw [h1] at hmo; cases hmo
  obtain ⟨ρ', ks, w1, w2, w3, w4, w5⟩ := wh
  refine ⟨[DB ks], ks, ?_, w4.rc, w4.on, w5⟩
  have e0 : fIx (.ref e) (.int 0) S = .ok (vN one) S := fIx_tup (k := 0) he rfl
  have e1 : fIx (.ref e) (.int 1) (S ++ [DB ks]) = .ok (vN other) (S ++ [DB ks]) := fIx_tup (k := 1) (get_app he) rfl
  have d1 : iDisp1 (iOp fIx (iVar 2) (iC (.int 0))) (iC (.bl true)) [some (.ref p), some (.ref q), some (.ref e), none, none, none, none] S = .ok (.ref S.length) (S ++ [DB [one]]) := by
    simp only [iDisp1, x_op, x_var, List.getElem?_cons_succ, List.getElem?_cons_zero, R.bind_ok, x_c, e0]
    rfl
  have d2 := din_B (ρ := ρ') (neg := false) (a := iOp fIx (iVar 2) (iC (.int 1))) (b := iVar 3) (S := S ++ [DB ks]) (k := other) (d := S.length) (by simp only [x_op, x_var, w2, R.bind_ok, x_c, e1]) (by simp only [x_var, w3]) get_n0
  simp only [Bool.false_eq_true, if_false] at d2
  simp only [i__law_leads, mk3, List.replicate]
  simp only [x_seq, x_par, x_cons, x_nil, d1, R.bind_ok, x_c, R.toO_ok, List.set, O.seq_nx, w1, x_ret, d2, x_val_rt]
end IL

end
section
set_option linter.all false
set_option maxRecDepth 100000
set_option maxHeartbeats 1000000
namespace IL
open PySem L2
theorem dd_nodup : ∀ {xs : List Int}, xs.Nodup → dd xs = xs
  | [], _ => rfl
  | x :: xs, h => by
    rw [List.nodup_cons] at h
    unfold dd
    rw [if_neg h.1, dd_nodup h.2]
theorem natI_nodup {xs : List Nat} (h : xs.Nodup) : (xs.map fun (x : Nat) => (x : Int)).Nodup := List.Pairwise.map _ (fun a b hab => by omega) h
theorem allDiff_nd {ms : List Nat} (h : ms.Nodup) : allDiff ms = true := by
  unfold allDiff
  rw [dd_nodup (natI_nodup h), List.length_map]
  simp
theorem chF_ok {ts : List (Nat × Nat)} {sh : List Nat} (hl : sh.length = ts.length) : ∀ (ch : List Nat) (b : Nat) (pre : List Nat), okW ts sh b ch → ∃ pre', (ch.map fun (x : Nat) => (x : Int)).foldl (chStep ts sh) (some (pre, b)) = some (pre', ends ts b ch) ∧ pre' ++ [ends ts b ch] = pre ++ met ts b ch
  | [], b, pre, _ => ⟨pre, rfl, rfl⟩
  | t :: ch, b, pre, ⟨h1, h2⟩ => by
    have ht : t < ts.length := by rw [← hl]; exact (List.getElem?_eq_some_iff.mp h1).1
    obtain ⟨pre', e1, e2⟩ := chF_ok hl ch (sec ts t b) (pre ++ [b]) h2
    refine ⟨pre', ?_, ?_⟩
    · rw [List.map_cons, List.foldl_cons, chStep_pos ht (by simp [List.getD, h1])]
      exact e1
    · show pre' ++ [ends ts (sec ts t b) ch] = pre ++ (b :: met ts (sec ts t b) ch)
      rw [e2]; simp
theorem chB_true {ts : List (Nat × Nat)} {sh ch : List Nat} {one other : Nat} (hl : sh.length = ts.length) (h1 : okW ts sh one ch) (h2 : ends ts one ch = other) (h3 : (met ts one ch).Nodup) : chB ts sh one other (ch.map fun (x : Nat) => (x : Int)) = true := by
  obtain ⟨pre, e1, e2⟩ := chF_ok hl ch one [] h1
  have e : chF ts sh one (ch.map fun (x : Nat) => (x : Int)) = some (pre, ends ts one ch) := e1
  unfold chB
  rw [e]
  show (decide (ends ts one ch = other) && allDiff (pre ++ [ends ts one ch])) = true
  rw [e2, List.nil_append, allDiff_nd h3, h2]
  simp
theorem chB_bad {ts : List (Nat × Nat)} {sh : List Nat} {one other : Nat} (xs : List Int) : chB ts sh one other (xs ++ [-1]) = false := by
  have e : chF ts sh one (xs ++ [-1]) = none := by
    unfold chF
    rw [List.foldl_append]
    cases xs.foldl (chStep ts sh) (some ([], one)) with
    | none => rfl
    | some pb =>
      obtain ⟨pre, b⟩ := pb
      show chStep ts sh (some (pre, b)) (-1) = none
      exact chStep_neg (by rintro ⟨z, _⟩; exact absurd z (by decide))
  unfold chB
  rw [e]
theorem pplB_true {so : List Nat} {n : Nat} (h : so.Pairwise (· < ·)) (hl : ∀ x ∈ so, x < n) : pplB (so.map fun (x : Nat) => (x : Int)) n = true := by
  have hnd : so.Nodup := h.imp fun h => by omega
  unfold pplB
  rw [dd_nodup (natI_nodup hnd)]
  have hs : srt (so.map fun (x : Nat) => (x : Int)) = so.map fun (x : Nat) => (x : Int) := srt_of (List.Perm.refl _) (List.Pairwise.map _ (fun a b hab => by omega) h)
  rw [hs]
  simp
  intro x hx
  have := hl x hx
  omega
theorem pplB_bad (xs : List Int) (n : Nat) : pplB (xs ++ [-1]) n = false := by
  unfold pplB
  rw [List.all_append]
  simp
theorem natI_mem {so : List Nat} {x : Nat} : ((x : Int) ∈ so.map fun (x : Nat) => (x : Int)) ↔ x ∈ so := by
  rw [List.mem_map]
  constructor
  · rintro ⟨y, h, e⟩
    have : y = x := by omega
    exact this ▸ h
  · exact fun h => ⟨x, h, rfl⟩
theorem sideB_true {ts : List (Nat × Nat)} {sh so : List Nat} {n one other : Nat} (h : so.Pairwise (· < ·)) (hl : ∀ x ∈ so, x < n) (h1 : one ∈ so) (h2 : other ∉ so) (h3 : ∀ t k, sh[t]? = some k → k ∈ so → sec ts t k ∈ so) : sideB n ts sh one other (so.map fun (x : Nat) => (x : Int)) = true := by
  unfold sideB
  rw [pplB_true h hl, decide_eq_true (natI_mem.mpr h1), decide_eq_false (fun z => h2 (natI_mem.mp z))]
  simp only [Bool.true_and, Bool.not_false]
  rw [List.all_eq_true]
  intro t ht
  have htl := List.mem_range.mp ht
  unfold bad
  have e : sh[t]? = some (sh.getD t 0) := by simp [List.getD, htl]
  by_cases hm : sh.getD t 0 ∈ so
  · rw [decide_eq_true (natI_mem.mpr hm), decide_eq_true (natI_mem.mpr (h3 t _ e hm))]; rfl
  · rw [decide_eq_false (fun z => hm (natI_mem.mp z))]; rfl
theorem sideB_bad {ts : List (Nat × Nat)} {sh : List Nat} {n one other : Nat} (xs : List Int) : sideB n ts sh one other (xs ++ [-1]) = false := by
  unfold sideB
  rw [pplB_bad]
  rfl
end IL

end
section
set_option linter.all false
set_option maxRecDepth 100000
set_option maxHeartbeats 1000000
namespace IL
open PySem L2
theorem count_set1 : ∀ {l : List Nat} {i v x : Nat} (p : Nat), l[i]? = some x → (l.set i v).count p + [x].count p = l.count p + [v].count p
  | [], i, v, x, p, h => by simp at h
  | y :: l, 0, v, x, p, h => by
    simp at h; subst h
    rw [List.set_cons_zero, show (v :: l) = [v] ++ l from rfl, show (y :: l) = [y] ++ l from rfl, List.count_append, List.count_append]; omega
  | y :: l, i + 1, v, x, p, h => by
    have := count_set1 (l := l) (i := i) (v := v) (x := x) p (by simpa using h)
    rw [List.set_cons_succ, show (y :: l.set i v) = [y] ++ l.set i v from rfl, show (y :: l) = [y] ++ l from rfl, List.count_append, List.count_append]; omega
def setAllN (f : Nat → Nat) : List Nat → List Nat → List Nat
  | [], sh => sh
  | t :: r, sh => setAllN f r (sh.set t (f t))
theorem setAllN_length {f : Nat → Nat} : ∀ (r sh : List Nat), (setAllN f r sh).length = sh.length
  | [], _ => rfl
  | t :: r, sh => by rw [setAllN, setAllN_length r, List.length_set]
theorem setAllN_get {f : Nat → Nat} : ∀ (r sh : List Nat) (i : Nat), i < sh.length → (setAllN f r sh)[i]? = if i ∈ r then some (f i) else sh[i]?
  | [], sh, i, h => by simp [setAllN]
  | t :: r, sh, i, h => by
    rw [setAllN, setAllN_get r _ i (by rw [List.length_set]; exact h)]
    by_cases e : i ∈ r
    · simp [e]
    · rw [if_neg e]
      by_cases e2 : t = i
      · subst e2; rw [List.getElem?_set_self h]; simp
      · rw [List.getElem?_set_ne e2, if_neg]
        simp [e, Ne.symm e2]
theorem setAllN_snoc {f : Nat → Nat} : ∀ (r : List Nat) (t : Nat) (sh : List Nat), setAllN f (r ++ [t]) sh = (setAllN f r sh).set t (f t)
  | [], _, _ => rfl
  | a :: r, t, sh => by rw [List.cons_append, setAllN, setAllN, setAllN_snoc r]
theorem setAllN_count {f s : Nat → Nat} (p : Nat) : ∀ (r sh : List Nat), r.Nodup → (∀ t ∈ r, sh[t]? = some (s t)) → (setAllN f r sh).count p + (r.map s).count p = sh.count p + (r.map f).count p
  | [], _, _, _ => rfl
  | t :: r, sh, hn, h => by
    obtain ⟨h1, h2⟩ := List.nodup_cons.mp hn
    have ih := setAllN_count (f := f) (s := s) p r (sh.set t (f t)) h2 fun u hu => by
      rw [List.getElem?_set_ne (fun z => h1 (by rw [z]; exact hu))]; exact h u (List.mem_cons_of_mem _ hu)
    have hc := count_set1 (v := f t) p (h t List.mem_cons_self)
    rw [setAllN, List.map_cons, List.map_cons, show (s t :: r.map s) = [s t] ++ r.map s from rfl, show (f t :: r.map f) = [f t] ++ r.map f from rfl, List.count_append, List.count_append]; omega
def passB (vt va vf : Nat) (f : Fn) : IS := sAsg (iCall f (iCons (iOp fIx (iVar vt) (iVar va)) (iCons (iOp fIx (iVar vf) (iVar va)) iNil))) (tgSub (iVar vf) (iVar va))
theorem pass_loop {S : Sto} {p fa ra vt va vf : Nat} {vs : List Va} {ts : List (Nat × Nat)} {sh ring : List Nat} {f : Fn} {ρ : Env} (hfn : Sec2 f) (hp : S[p]? = some (.lst vs)) (hv : Tks S vs ts) (hs : GP ts sh) (hf : S[fa]? = some (LN sh)) (hr : S[ra]? = some (LN ring)) (hne : fa ≠ ra) (hpf : p ≠ fa) (hrl : ∀ t ∈ ring, t < sh.length) (hnd : ring.Nodup)
    (h1 : ρ[vt]? = some (some (.ref p))) (h2 : ρ[vf]? = some (some (.ref fa))) (n1 : va ≠ vt) (n2 : va ≠ vf) (hva : va < ρ.length) :
    ∃ ρ' S', forL (sameAt S (.ref ra)) (tgName va) (passB vt va vf f) ((ring.map vN).map .one) ρ S = .nx ρ' S' ∧ (∀ j, j ≠ va → ρ'[j]? = ρ[j]?) ∧ ρ'.length = ρ.length ∧ S' = S.set fa (LN (setAllN (fun t => sec ts t (sh.getD t 0)) ring sh)) := by
  have hfl : fa < S.length := (List.getElem?_eq_some_iff.mp hf).1
  obtain ⟨ρ', S', k1, k2, k3, k4⟩ := for_nx (chk := sameAt S (.ref ra)) (tg := tgName va) (body := passB vt va vf f)
    (fun j ρ' S' => (∀ j, j ≠ va → ρ'[j]? = ρ[j]?) ∧ ρ'.length = ρ.length ∧ S' = S.set fa (LN (setAllN (fun t => sec ts t (sh.getD t 0)) (ring.take j) sh))) ((ring.map vN).map .one) ρ S
    ⟨fun _ _ => rfl, rfl, by
      show S = S.set fa (LN sh)
      apply List.ext_getElem?
      intro i
      by_cases hi : i = fa
      · subst hi; rw [List.getElem?_set_self hfl, hf]
      · rw [List.getElem?_set_ne (Ne.symm hi)]⟩
    (fun j it ρ' S' hj ⟨e1, e2, e3⟩ => by
      obtain ⟨v, z1, rfl⟩ := map_one_get hj
      obtain ⟨t, z2, rfl⟩ := map_get z1
      have htl := hrl t (List.mem_of_getElem? z2)
      have hnt : t ∉ ring.take j := fun hm => by
        obtain ⟨i, hi⟩ := List.getElem?_of_mem hm
        have hij : i < j := by have := (List.getElem?_eq_some_iff.mp hi).1; rw [List.length_take] at this; omega
        rw [List.getElem?_take_of_lt hij] at hi
        have := (List.getElem?_inj (List.getElem?_eq_some_iff.mp hi).1 hnd).mp (hi.trans z2.symm)
        omega
      have e0 : ∀ a, a ≠ fa → S'[a]? = S[a]? := fun a ha => by rw [e3, List.getElem?_set_ne (Ne.symm ha)]
      have e4 : S'[fa]? = some (LN (setAllN (fun t => sec ts t (sh.getD t 0)) (ring.take j) sh)) := by rw [e3, List.getElem?_set_self hfl]
      have e8 : sh[t]? = some (sh.getD t 0) := by simp [List.getD, htl]
      obtain ⟨a, b, g1, g2⟩ := hs t _ e8
      have hil : t < vs.length := by rw [Paired.len hv]; exact (List.getElem?_eq_some_iff.mp g1).1
      have e9 : vs[t]? = some vs[t] := by simp [hil]
      obtain ⟨t', e10, c, e11, e12⟩ := Paired.get hv e9
      rw [g1] at e10; cases e10
      rw [e11] at e9
      have hcne : c ≠ fa := fun z => by rw [z, hf] at e12; cases e12
      have g3 : fIx (.ref p) (vN t) S' = .ok (.ref c) S' := fIx_lst (by rw [e0 p hpf]; exact hp) e9
      have gv : (setAllN (fun t => sec ts t (sh.getD t 0)) (ring.take j) sh)[t]? = some (sh.getD t 0) := by
        rw [setAllN_get _ _ _ htl, if_neg hnt]; exact e8
      have g4 : fIx (.ref fa) (vN t) S' = .ok (vN (sh.getD t 0)) S' := fIx_lst e4 (vN_get gv)
      have g5 : f [.ref c, vN (sh.getD t 0)] S' = .ok (vN (sec ts t (sh.getD t 0))) S' := by rw [sec_of g1]; exact hfn _ _ _ _ _ (by rw [e0 c hcne]; exact e12) g2
      have g6 := setL_lst (v := vN (sec ts t (sh.getD t 0))) (k := t) e4 (by rw [List.length_map, setAllN_length]; exact htl)
      rw [LN_set, ← setAllN_snoc (f := fun t => sec ts t (sh.getD t 0))] at g6
      have e13 : ring.take j ++ [t] = ring.take (j + 1) := by rw [List.take_add_one, z2]; rfl
      rw [e13] at g6
      have g6' : setL (.ref fa) (vN t) (vN (sec ts t (sh.getD t 0))) S' = .ok () (S'.set fa (LN (setAllN (fun t => sec ts t (sh.getD t 0)) (ring.take (j + 1)) sh))) := g6
      have r1 : (ρ'.set va (some (vN t)))[vt]? = some (some (.ref p)) := by rw [List.getElem?_set_ne n1, e1 _ (Ne.symm n1)]; exact h1
      have r2 : (ρ'.set va (some (vN t)))[vf]? = some (some (.ref fa)) := by rw [List.getElem?_set_ne n2, e1 _ (Ne.symm n2)]; exact h2
      have r3 : (ρ'.set va (some (vN t)))[va]? = some (some (vN t)) := by rw [List.getElem?_set_self (by omega)]
      refine ⟨by simp only [sameAt, decide_eq_true_eq]; exact e0 ra (Ne.symm hne), ρ'.set va (some (vN t)), S', rfl, ρ'.set va (some (vN t)), S'.set fa (LN (setAllN (fun t => sec ts t (sh.getD t 0)) (ring.take (j + 1)) sh)), by simp only [passB, x_asg, x_call, x_cons, x_nil, x_op, x_var, r1, r2, r3, R.bind_ok, g3, g4, g5, R.toO_ok, x_tgSub, g6'], fun k hk => by rw [List.getElem?_set_ne (Ne.symm hk)]; exact e1 k hk, by rw [List.length_set]; exact e2, ?_⟩
      rw [e3, List.set_set])
    (fun ρ' S' ⟨_, _, e3⟩ => by simp only [sameAt, decide_eq_true_eq]; rw [e3, List.getElem?_set_ne hne])
  rw [List.length_map, List.length_map, List.take_length] at k4
  exact ⟨ρ', S', k1, k2, k3, k4⟩
end IL

end
section
set_option linter.all false
set_option maxRecDepth 100000
set_option maxHeartbeats 1000000
namespace IL
open PySem L2
theorem met_s {ts : List (Nat × Nat)} {sh : List Nat} : ∀ (ch : List Nat) (b : Nat), okW ts sh b ch → met ts b ch = (ch.map fun t => sh.getD t 0) ++ [ends ts b ch]
  | [], b, _ => rfl
  | t :: ch, b, ⟨h1, h2⟩ => by
    show b :: met ts (sec ts t b) ch = _
    rw [met_s ch _ h2, List.map_cons]
    have : sh.getD t 0 = b := by simp [List.getD, h1]
    rw [this]; rfl
theorem met_f {ts : List (Nat × Nat)} {sh : List Nat} : ∀ (ch : List Nat) (b : Nat), okW ts sh b ch → met ts b ch = b :: ch.map fun t => sec ts t (sh.getD t 0)
  | [], b, _ => rfl
  | t :: ch, b, ⟨h1, h2⟩ => by
    show b :: met ts (sec ts t b) ch = _
    rw [met_f ch _ h2, List.map_cons]
    have : sh.getD t 0 = b := by simp [List.getD, h1]
    rw [this]
theorem okW_lt {ts : List (Nat × Nat)} {sh : List Nat} : ∀ (ch : List Nat) (b : Nat), okW ts sh b ch → ∀ t ∈ ch, t < sh.length
  | [], b, _, t, h => by cases h
  | u :: ch, b, ⟨h1, h2⟩, t, h => by
    rcases List.mem_cons.mp h with rfl | h
    · exact (List.getElem?_eq_some_iff.mp h1).1
    · exact okW_lt ch _ h2 t h
theorem okW_nd {ts : List (Nat × Nat)} {sh : List Nat} {ch : List Nat} {b : Nat} (h : okW ts sh b ch) (hn : (met ts b ch).Nodup) : ch.Nodup := by
  rw [met_s ch b h] at hn
  have := (List.nodup_append.mp hn).1
  exact List.Pairwise.of_map (fun t => sh.getD t 0) (fun a b h1 h2 => h1 (by rw [h2])) this
theorem passed_count {ts : List (Nat × Nat)} {sh ch : List Nat} {b : Nat} (h : okW ts sh b ch) (hn : (met ts b ch).Nodup) (p : Nat) : (setAllN (fun t => sec ts t (sh.getD t 0)) ch sh).count p + [b].count p = sh.count p + [ends ts b ch].count p := by
  have h1 := setAllN_count (f := fun t => sec ts t (sh.getD t 0)) (s := fun t => sh.getD t 0) p ch sh (okW_nd h hn) fun t ht => by simp [List.getD, okW_lt ch b h t ht]
  have h2 := met_s ch b h
  rw [met_f ch b h] at h2
  have h3 := congrArg (List.count p) h2
  rw [List.count_append, show (b :: ch.map fun t => sec ts t (sh.getD t 0)) = [b] ++ ch.map fun t => sec ts t (sh.getD t 0) from rfl, List.count_append] at h3
  omega
end IL

end
section
set_option linter.all false
set_option maxRecDepth 100000
set_option maxHeartbeats 1000000
namespace IL
open PySem L2
/-- what an answer of kind isC, that lists xs, says -/
def ansB (isC : Bool) (n : Nat) (ts : List (Nat × Nat)) (an : List Nat) (near far : Nat) (xs : List Int) : Bool := if isC = true then chB ts an near far xs else sideB n ts an near far xs
/-- the answer as it lies -/
def Ans (isC : Bool) (S : Sto) (k : Nat) (xs : List Int) : Prop := S[k]? = some (if isC = true then .obj "Chain" [("tasks", .ref (k + 1))] else .obj "Side" [("some", .ref (k + 1))]) ∧ S[k + 1]? = some (.lst (xs.map .int))
theorem Ans.app {isC : Bool} {S T : Sto} {k : Nat} {xs : List Int} (h : Ans isC S k xs) : Ans isC (S ++ T) k xs := ⟨get_app h.1, get_app h.2⟩
theorem lk_no {f g : Str} {v : Va} (h : (f == g) = false) : List.lookup f [(g, v)] = none := by simp only [List.lookup, h]
noncomputable abbrev showsE (a : IA) : IE := iIs "Chain" (iVar 7) (iMeth "Chain" "shows" i_Chain_shows (iVar 7) a) (iMeth "Side" "shows" i_Side_shows (iVar 7) a)
theorem shows_any {S : Sto} {k n p q near far : Nat} {isC : Bool} {xs : List Int} {vs : List Va} {ts : List (Nat × Nat)} {an : List Nat} {ρ : Env} {a : IA} (h : Ans isC S k xs) (h7 : ρ[7]? = some (some (.ref k))) (ha : a ρ S = .ok [vN n, .ref p, .ref q, vN near, vN far] S) (hp : S[p]? = some (.lst vs)) (ht : Tks S vs ts) (hq : S[q]? = some (LN an)) (hg : GS ts an) (hl : xs.length < 64) (hal : an.length ≤ 900) :
    ∃ T, showsE a ρ S = .ok (.bl (ansB isC n ts an near far xs)) (S ++ T) := by
  cases isC with
  | true =>
    obtain ⟨h1, h2⟩ := h
    have h1' : S[k]? = some (.obj "Chain" [("tasks", .ref (k + 1))]) := h1
    obtain ⟨T, e⟩ := chain_shows_ok (v1 := vN n) (near := near) (far := far) h1' h2 hp ht hq hg (by omega)
    refine ⟨T, ?_⟩
    have c : ("Chain" : Str) = "Chain" ∧ List.lookup ("shows" : Str) [(("tasks" : Str), Va.ref (k + 1))] = none := ⟨rfl, lk_no (by decide +kernel)⟩
    simp only [showsE, iIs, iMeth, x_var, h7, R.bind_ok, getO_ref h1', if_true, c, and_self, ha, e]
    rfl
  | false =>
    obtain ⟨h1, h2⟩ := h
    have h1' : S[k]? = some (.obj "Side" [("some", .ref (k + 1))]) := h1
    obtain ⟨T, e⟩ := side_shows_ok (n := n) (near := near) (far := far) h1' h2 hp ht hq hg hl hal
    refine ⟨T, ?_⟩
    have c : ("Side" : Str) = "Side" ∧ List.lookup ("shows" : Str) [(("some" : Str), Va.ref (k + 1))] = none := ⟨rfl, lk_no (by decide +kernel)⟩
    have d : ¬ (("Side" : Str) = "Chain") := by decide +kernel
    simp only [showsE, iIs, iMeth, x_var, h7, R.bind_ok, getO_ref h1', if_true, c, and_self, ha, e, if_neg d]
    rfl
end IL

end
section
set_option linter.all false
set_option maxRecDepth 100000
set_option maxHeartbeats 1000000
namespace IL
open PySem L2
theorem due_any {S : Sto} {k n p q e near far : Nat} {isC : Bool} {xs : List Int} {vs : List Va} {ts : List (Nat × Nat)} {an : List Nat} (h : Ans isC S k xs) (he : S[e]? = some (.tup [vN near, vN far])) (hp : S[p]? = some (.lst vs)) (ht : Tks S vs ts) (hq : S[q]? = some (LN an)) (hg : GS ts an) (hl : xs.length < 64) (hal : an.length ≤ 900) :
    ∃ T, i__law_due [vN n, .ref p, .ref q, .ref e, .ref k] S = .ok (.bl (ansB isC n ts an near far xs)) (S ++ T) := by
  cases isC with
  | true => exact due_chain h.1 h.2 he hp ht hq hg (by omega)
  | false => exact due_side h.1 h.2 he hp ht hq hg hl hal
theorem ends_closed {ts : List (Nat × Nat)} {sh : List Nat} {C : Nat → Prop} (hc : ∀ t q, sh[t]? = some q → C q → C (sec ts t q)) : ∀ (ch : List Nat) (b : Nat), okW ts sh b ch → C b → C (ends ts b ch)
  | [], b, _, h => h
  | t :: ch, b, ⟨h1, h2⟩, h => ends_closed hc ch _ h2 (hc t b h1 h)
/-- the answer of passed, as the law looks at it -/
structure Got (S : Sto) (k n : Nat) (ts : List (Nat × Nat)) (sh : List Nat) (one other : Nat) (isC : Bool) (xs : List Int) : Prop where
  an : Ans isC S k xs
  ok : ansB isC n ts sh one other xs = true
  bad : ansB isC n ts sh one other (xs ++ [-1]) = false
  ln : xs.length ≤ 60
  ch : isC = true → ∃ ch : List Nat, xs = ch.map (fun (x : Nat) => (x : Int)) ∧ okW ts sh one ch ∧ ends ts one ch = other ∧ (met ts one ch).Nodup
  ld : ∀ ks : List Nat, (∀ x ∈ ks, Rch ts sh one x) → one ∈ ks → (∀ t k, sh[t]? = some k → k ∈ ks → sec ts t k ∈ ks) → decide (other ∈ ks) = isC
theorem got_of {S : Sto} {k n : Nat} {ts : List (Nat × Nat)} {sh : List Nat} {one other : Nat} (hl : sh.length = ts.length) (hn : n ≤ 60) (h : PassR S k n ts sh one other) : ∃ isC xs, Got S k n ts sh one other isC xs := by
  rcases h with ⟨ch, h1, h2, h3, h4, h5, h6⟩ | ⟨so, h1, h2, h3, h4, h5, h6, h7⟩
  · refine ⟨true, ch.map fun (x : Nat) => (x : Int), ⟨h1, ?_⟩, chB_true hl h3 h4 h5, chB_bad _, by rw [List.length_map]; omega, fun _ => ⟨ch, rfl, h3, h4, h5⟩, fun ks a b c => ?_⟩
    · rw [h2]; unfold LN; rw [map_vN]
    · refine decide_eq_true ?_
      rw [← h4]
      exact ends_closed (C := fun x => x ∈ ks) c ch one h3 b
  · have hsl : so.length ≤ n := nodup_len (h3.imp fun h => by omega) h4
    refine ⟨false, so.map fun (x : Nat) => (x : Int), ⟨h1, ?_⟩, sideB_true h3 h4 h5 h6 h7, sideB_bad _, by rw [List.length_map]; omega, (fun z => by cases z), fun ks a b c => ?_⟩
    · rw [h2]; unfold LN; rw [map_vN]
    · refine decide_eq_false fun z => h6 ?_
      exact a other z (fun x => x ∈ so) h5 h7
end IL

end
section
set_option linter.all false
set_option maxRecDepth 100000
set_option maxHeartbeats 1000000
namespace IL
open PySem L2
theorem eqvAll_self : ∀ {xs : List PyData}, (∀ x ∈ xs, PyData.eqv x x = true) → PyData.eqvAll xs xs = true
  | [], _ => by simp [PyData.eqvAll]
  | x :: xs, h => by
    rw [PyData.eqvAll, h x List.mem_cons_self, eqvAll_self fun y hy => h y (List.mem_cons_of_mem _ hy)]; rfl
def pT (t : Nat × Nat) : PyData := .tuple [.int t.1, .int t.2]
def pL (xs : List Nat) : PyData := .list (xs.map fun (x : Nat) => .int x)
def pTs (ts : List (Nat × Nat)) : PyData := .list (ts.map pT)
theorem pL_self (xs : List Nat) : PyData.eqv (pL xs) (pL xs) = true := by
  unfold pL; rw [PyData.eqv]
  exact eqvAll_self fun x hx => by obtain ⟨y, _, rfl⟩ := List.mem_map.mp hx; simp [PyData.eqv]
theorem pTs_self (ts : List (Nat × Nat)) : PyData.eqv (pTs ts) (pTs ts) = true := by
  unfold pTs; rw [PyData.eqv]
  refine eqvAll_self fun x hx => ?_
  obtain ⟨y, _, rfl⟩ := List.mem_map.mp hx
  simp [pT, PyData.eqv, PyData.eqvAll]
theorem toP_LN {S : Sto} {q k : Nat} {xs : List Nat} (h : S[q]? = some (LN xs)) : toP (k + 1) S (.ref q) = some (pL xs) := by
  unfold LN at h
  simp only [toP, h, toP_N, pL]
theorem allO_rel {α β : Type} {f : α → Option β} : ∀ {xs : List α} {ys : List β}, Paired (fun x y => f x = some y) xs ys → allO (xs.map f) = some ys
  | _, _, .nil => rfl
  | _, _, .cons h r => by
    rw [List.map_cons, h]; unfold allO; rw [allO_rel r]
theorem Paired.mapR {α β γ : Type} {F : α → γ → Prop} {f : β → γ} : ∀ {xs : List α} {ys : List β}, Paired (fun x y => F x (f y)) xs ys → Paired F xs (ys.map f)
  | _, _, .nil => .nil
  | _, _, .cons h r => .cons h (Paired.mapR r)
theorem Paired.mapL {α β γ : Type} {F : γ → β → Prop} {f : α → γ} : ∀ {xs : List α} {ys : List β}, Paired (fun x y => F (f x) y) xs ys → Paired F (xs.map f) ys
  | _, _, .nil => .nil
  | _, _, .cons h r => .cons h (Paired.mapL r)
theorem toP_Tks {S : Sto} {p k : Nat} {vs : List Va} {ts : List (Nat × Nat)} (hp : S[p]? = some (.lst vs)) (ht : Tks S vs ts) : toP (k + 2) S (.ref p) = some (pTs ts) := by
  have : allO (vs.map (toP (k + 1) S)) = some (ts.map pT) := allO_rel (Paired.mapR (Paired.imp (fun v t ⟨q, e, h⟩ => by
    subst e
    simp [toP, h, allO, vN, pT]) ht))
  simp only [toP, hp, this, pTs]
theorem fNe_of {S : Sto} {x y : Va} {d : PyData} (hx : toP 9 S x = some d) (hy : toP 9 S y = some d) (h : PyData.eqv d d = true) : fNe x y S = .ok (.bl false) S := by simp only [fNe, hx, hy, h]; rfl
theorem fEq_of {S : Sto} {x y : Va} {d : PyData} (hx : toP 9 S x = some d) (hy : toP 9 S y = some d) (h : PyData.eqv d d = true) : fEq x y S = .ok (.bl true) S := by simp only [fEq, hx, hy, h]
theorem fEq_LN {S : Sto} {p q : Nat} {xs ys : List Nat} (h : S[p]? = some (LN xs)) (hq : S[q]? = some (LN ys)) : fEq (.ref p) (.ref q) S = .ok (.bl (decide (xs = ys))) S := by
  unfold LN at h hq
  simp only [fEq, toP, h, hq, toP_N, PyData.eqv, eqv_N]
theorem toP_lst {S : Sto} {k d : Nat} {vs : List Va} {ds : List PyData} (h : S[d]? = some (.lst vs)) (ha : allO (vs.map (toP k S)) = some ds) : toP (k + 1) S (.ref d) = some (.list ds) := by simp only [toP, h, ha]
end IL

end
section
set_option linter.all false
set_option maxRecDepth 100000
set_option maxHeartbeats 1000000
namespace IL
open PySem L2
theorem isiA {S : Sto} {k : Nat} {isC : Bool} {xs : List Int} (h : Ans isC S k xs) : fIsiC [.ref k, .gl "Chain"] S = .ok (.bl isC) S ∧ fIsiC [.ref k, .gl "Side"] S = .ok (.bl (!isC)) S ∧ fIsiC [.ref k, .gl "Even"] S = .ok (.bl false) S ∧ fIsiC [.ref k, .gl "Shared"] S = .ok (.bl false) S ∧ fIsiC [.ref k, .gl "Crowd"] S = .ok (.bl false) S ∧ fIsiC [.ref k, .gl "Answer"] S = .ok (.bl true) S := by
  cases isC with
  | true =>
    have h1 : S[k]? = some (.obj "Chain" [("tasks", .ref (k + 1))]) := h.1
    refine ⟨?_, ?_, ?_, ?_, ?_, ?_⟩ <;> rw [isiC h1 (by decide +kernel) (by decide +kernel)] <;> rfl
  | false =>
    have h1 : S[k]? = some (.obj "Side" [("some", .ref (k + 1))]) := h.1
    refine ⟨?_, ?_, ?_, ?_, ?_, ?_⟩ <;> rw [isiC h1 (by decide +kernel) (by decide +kernel)] <;> rfl
theorem cntA {S : Sto} {a : Nat} {isC : Bool} (h : S[a]? = some (.lst [.bl isC, .bl (!isC)])) : mCnt (.ref a) [.bl true] S = .ok (.int 1) S := by
  cases isC <;> simp [mCnt, getL_ref h, flatA, eqA, List.countP_cons]
theorem fNe_B {S : Sto} {a b : Bool} : fNe (.bl a) (.bl b) S = .ok (.bl (!decide (a = b))) S := by
  cases a <;> cases b <;> rfl
/-- another look: sharing an at a, from near to far -/
def Oth (S : Sto) (ts : List (Nat × Nat)) (n : Nat) (v : Va) (x : List Nat × Nat × Nat) : Prop := ∃ w a, v = .ref w ∧ S[w]? = some (.tup [.ref a, vN x.2.1, vN x.2.2]) ∧ S[a]? = some (LN x.1) ∧ GS ts x.1
structure RS (S : Sto) (n p q e o hd h0 h1 one other : Nat) (vs : List Va) (ts : List (Nat × Nat)) (sh : List Nat) (ov : List Va) (os : List (List Nat × Nat × Nat)) : Prop where
  hp : S[p]? = some (.lst vs)
  ht : Tks S vs ts
  hq : S[q]? = some (LN sh)
  he : S[e]? = some (.tup [vN one, vN other])
  ho : S[o]? = some (.lst ov)
  hos : Paired (Oth S ts n) ov os
  hd : S[hd]? = some (.lst [.ref h0, .ref h1])
  h0 : S[h0]? = some (.lst vs)
  h1 : S[h1]? = some (LN sh)
theorem RS.px {S S' : Sto} {n p q e o hd h0 h1 one other : Nat} {vs : List Va} {ts : List (Nat × Nat)} {sh : List Nat} {ov : List Va} {os : List (List Nat × Nat × Nat)} (x : Px S S') (h : RS S n p q e o hd h0 h1 one other vs ts sh ov os) : RS S' n p q e o hd h0 h1 one other vs ts sh ov os :=
  ⟨x.get h.hp, x.tks h.ht, x.get h.hq, x.get h.he, x.get h.ho, Paired.imp (fun _ _ ⟨w, a, e1, e2, e3, e4⟩ => ⟨w, a, e1, x.get e2, x.get e3, e4⟩) h.hos, x.get h.hd, x.get h.h0, x.get h.h1⟩
theorem Ans.px {isC : Bool} {S S' : Sto} {k : Nat} {xs : List Int} (x : Px S S') (h : Ans isC S k xs) : Ans isC S' k xs := ⟨x.get h.1, x.get h.2⟩
end IL

end
section
set_option linter.all false
set_option maxRecDepth 100000
set_option maxHeartbeats 1000000
namespace IL
open PySem L2
noncomputable def rt0 : IS := (sAsg (iCall i_passed (iCons (iVar 0) (iCons (iOp fIx (iVar 5) (iC (.int 0))) (iCons (iOp fIx (iVar 5) (iC (.int 1))) (iCons (iOp fIx (iVar 3) (iC (.int 0))) (iCons (iOp fIx (iVar 3) (iC (.int 1))) iNil)))))) (tgName 7))
noncomputable def rt1 : IS := (sAsg (iLst (iCons (iCB fIsiC (iCons (iVar 7) (iCons (iC (.gl "Chain")) iNil))) (iCons (iCB fIsiC (iCons (iVar 7) (iCons (iC (.gl "Side")) iNil))) iNil))) (tgName 8))
noncomputable def rt2 : IS := (sAsg (iLst (iCons (iCB fIsiC (iCons (iVar 7) (iCons (iC (.gl "Even")) iNil))) (iCons (iCB fIsiC (iCons (iVar 7) (iCons (iC (.gl "Shared")) iNil))) (iCons (iCB fIsiC (iCons (iVar 7) (iCons (iC (.gl "Crowd")) iNil))) iNil)))) (tgName 9))
noncomputable def rt3 : IS := (sIf (iOr (iNot (iB (iCB fIsiC (iCons (iVar 7) (iCons (iC (.gl "Answer")) iNil))))) (iOr (iB (iOp fNe (iBM mCnt (iVar 8) (iCons (iC (.bl true)) iNil)) (iC (.int 1)))) (iOr (iB (iCB fAny (iCons (iVar 9) iNil))) (iB (iOp fNe (iVar 5) (iLst (iCons (iVar 1) (iCons (iVar 2) iNil)))))))) (sRet (iC (.bl false))) sNext)
noncomputable def rt4 : IS := (sIf (iNot (iB (iCall i__law_wholes (iCons (iIf (iB (iOp fIx (iVar 8) (iC (.int 0)))) (iFld (iVar 7) "tasks") (iFld (iVar 7) "some")) iNil)))) (sRet (iC (.bl false))) sNext)
noncomputable def rt5 : IS := (sIf (iOr (iB (iOp fNe (iOp fIx (iVar 8) (iC (.int 0))) (iCall i__law_leads (iCons (iVar 1) (iCons (iVar 2) (iCons (iVar 3) iNil)))))) (iNot (iB (iCall i__law_due (iCons (iVar 0) (iCons (iVar 1) (iCons (iVar 2) (iCons (iVar 3) (iCons (iVar 7) iNil))))))))) (sRet (iC (.bl false))) sNext)
noncomputable def rt6 : IS := (sIf (iB (iOp fIsNot (iIs "Chain" (iVar 7) (iMeth "Chain" "shows" i_Chain_shows (iVar 7) (iCons (iVar 0) (iCons (iVar 1) (iCons (iVar 2) (iCons (iOp fIx (iVar 3) (iC (.int 0))) (iCons (iOp fIx (iVar 3) (iC (.int 1))) iNil)))))) (iMeth "Side" "shows" i_Side_shows (iVar 7) (iCons (iVar 0) (iCons (iVar 1) (iCons (iVar 2) (iCons (iOp fIx (iVar 3) (iC (.int 0))) (iCons (iOp fIx (iVar 3) (iC (.int 1))) iNil))))))) (iC (.bl true)))) (sRet (iC (.bl false))) sNext)
noncomputable def rt7 : IS := (sFor (itList (iVar 4)) (tgTupN 3 [(tgName 10), (tgName 11), (tgName 12)]) (sIf (iB (iOp fNe (iIs "Chain" (iVar 7) (iMeth "Chain" "shows" i_Chain_shows (iVar 7) (iCons (iVar 0) (iCons (iVar 1) (iCons (iVar 10) (iCons (iVar 11) (iCons (iVar 12) iNil)))))) (iMeth "Side" "shows" i_Side_shows (iVar 7) (iCons (iVar 0) (iCons (iVar 1) (iCons (iVar 10) (iCons (iVar 11) (iCons (iVar 12) iNil))))))) (iCall i__law_due (iCons (iVar 0) (iCons (iVar 1) (iCons (iVar 10) (iCons (IL.iTup (iCons (iVar 11) (iCons (iVar 12) iNil))) (iCons (iVar 7) iNil)))))))) (sRet (iC (.bl false))) sNext))
noncomputable def rt8 : IS := (sIf (iB (iOp fIx (iVar 8) (iC (.int 0)))) (sSeq (sAsg (iCB fList (iCons (iVar 2) iNil)) (tgName 13))
  (sSeq (sFor (itList (iFld (iVar 7) "tasks")) (tgName 14) (sAsg (iCall i__law_second (iCons (iOp fIx (iVar 1) (iVar 14)) (iCons (iOp fIx (iVar 13) (iVar 14)) iNil))) (tgSub (iVar 13) (iVar 14))))
  (sSeq (sAsg (iCall i__law_loads (iCons (iVar 0) (iCons (iVar 2) iNil))) (tgName 15))
  (sSeq (sAsg (iOp fSub (iOp fIx (iVar 15) (iOp fIx (iVar 3) (iC (.int 0)))) (iC (.int 1))) (tgSub (iVar 15) (iOp fIx (iVar 3) (iC (.int 0)))))
  (sSeq (sAsg (iOp fAdd (iOp fIx (iVar 15) (iOp fIx (iVar 3) (iC (.int 1)))) (iC (.int 1))) (tgSub (iVar 15) (iOp fIx (iVar 3) (iC (.int 1)))))
  (sSeq (sIf (iB (iOp fNe (iCall i__law_loads (iCons (iVar 0) (iCons (iVar 13) iNil))) (iVar 15))) (sRet (iC (.bl false))) sNext)
  (sExpr (iBM mAppend (iFld (iVar 7) "tasks") (iCons (iUn fNeg (iC (.int 1))) iNil))))))))) (sExpr (iBM mAppend (iFld (iVar 7) "some") (iCons (iUn fNeg (iC (.int 1))) iNil))))
noncomputable def rt9 : IS := (sIf (iB (iOp fIsNot (iIs "Chain" (iVar 7) (iMeth "Chain" "shows" i_Chain_shows (iVar 7) (iCons (iVar 0) (iCons (iVar 1) (iCons (iVar 2) (iCons (iOp fIx (iVar 3) (iC (.int 0))) (iCons (iOp fIx (iVar 3) (iC (.int 1))) iNil)))))) (iMeth "Side" "shows" i_Side_shows (iVar 7) (iCons (iVar 0) (iCons (iVar 1) (iCons (iVar 2) (iCons (iOp fIx (iVar 3) (iC (.int 0))) (iCons (iOp fIx (iVar 3) (iC (.int 1))) iNil))))))) (iC (.bl false)))) (sRet (iC (.bl false))) sNext)
noncomputable def rtB : IS := (sSeq rt0 (sSeq rt1 (sSeq rt2 (sSeq rt3 (sSeq rt4 (sSeq rt5 (sSeq rt6 (sSeq rt7 (sSeq rt8 rt9)))))))))
theorem right_eq3 : i__law_right = mkFn 5 16 (sSeq (sAsg (iLst (iCons (iCB fList (iCons (iVar 1) iNil)) (iCons (iCB fList (iCons (iVar 2) iNil)) iNil))) (tgName 5)) (sSeq (sFor (itRng (iC (.int 2))) (tgName 6) rtB) (sRet (iC (.bl true))))) := rfl
end IL

end
section
set_option linter.all false
set_option maxRecDepth 100000
set_option maxHeartbeats 1000000
namespace IL
open PySem L2
/-! ### weakest preconditions of the plain machine -/
def OkR {α : Type} (r : R α) (Q : α → Sto → Prop) : Prop := match r with
  | .ok a S => Q a S
  | _ => False
def OkO (o : O) (N : Env → Sto → Prop) (T : Va → Sto → Prop) : Prop := match o with
  | .nx ρ S => N ρ S
  | .rt v S => T v S
  | _ => False
theorem OkR.ex {α : Type} {r : R α} {Q : α → Sto → Prop} (h : OkR r Q) : ∃ a S, r = .ok a S ∧ Q a S := by
  cases r with
  | ok a S => exact ⟨a, S, rfl, h⟩
  | ex c S => exact h.elim
  | no => exact h.elim
theorem OkR.of {α : Type} {r : R α} {a : α} {S : Sto} {Q : α → Sto → Prop} (e : r = .ok a S) (h : Q a S) : OkR r Q := by rw [e]; exact h
theorem OkR.imp {α : Type} {r : R α} {P Q : α → Sto → Prop} (h : OkR r P) (f : ∀ a S, P a S → Q a S) : OkR r Q := by
  cases r with
  | ok a S => exact f a S h
  | ex c S => exact h.elim
  | no => exact h.elim
theorem OkO.imp {o : O} {N N' : Env → Sto → Prop} {T T' : Va → Sto → Prop} (h : OkO o N T) (f : ∀ ρ S, N ρ S → N' ρ S) (g : ∀ v S, T v S → T' v S) : OkO o N' T' := by
  cases o with
  | nx ρ S => exact f ρ S h
  | rt v S => exact g v S h
  | ex c ρ S => exact h.elim
  | no => exact h.elim
theorem OkO.of {o : O} {ρ : Env} {S : Sto} {N : Env → Sto → Prop} {T : Va → Sto → Prop} (e : o = .nx ρ S) (h : N ρ S) : OkO o N T := by rw [e]; exact h
theorem OkO.ofR {o : O} {v : Va} {S : Sto} {N : Env → Sto → Prop} {T : Va → Sto → Prop} (e : o = .rt v S) (h : T v S) : OkO o N T := by rw [e]; exact h
theorem ok_bind {α β : Type} {r : R α} {k : α → Sto → R β} {Q : β → Sto → Prop} (h : OkR r fun a S => OkR (k a S) Q) : OkR (r.bind k) Q := by
  cases r with
  | ok a S => exact h
  | ex c S => exact h.elim
  | no => exact h.elim
theorem ok_toO {α : Type} {r : R α} {ρ : Env} {k : α → Sto → O} {N : Env → Sto → Prop} {T : Va → Sto → Prop} (h : OkR r fun a S => OkO (k a S) N T) : OkO (r.toO ρ k) N T := by
  cases r with
  | ok a S => exact h
  | ex c S => exact h.elim
  | no => exact h.elim
theorem ok_seq {o : O} {k : IS} {N : Env → Sto → Prop} {T : Va → Sto → Prop} (h : OkO o (fun ρ S => OkO (k ρ S) N T) T) : OkO (o.seq k) N T := by
  cases o with
  | nx ρ S => exact h
  | rt v S => exact h
  | ex c ρ S => exact h.elim
  | no => exact h.elim
/-! ### what stays -/
def Fx (ns : List Nat) (S S' : Sto) : Prop := S.length ≤ S'.length ∧ ∀ q o, q ∉ ns → S[q]? = some o → S'[q]? = some o
theorem Fx.refl {S : Sto} : Fx [] S S := ⟨Nat.le_refl _, fun _ _ _ h => h⟩
theorem Fx.le {ns : List Nat} {S S' : Sto} (h : Fx ns S S') : S.length ≤ S'.length := h.1
theorem Fx.get {ns : List Nat} {S S' : Sto} {q : Nat} {o : Ob} (h : Fx ns S S') (n : q ∉ ns) (e : S[q]? = some o) : S'[q]? = some o := h.2 q o n e
theorem Fx.get0 {S S' : Sto} {q : Nat} {o : Ob} (h : Fx [] S S') (e : S[q]? = some o) : S'[q]? = some o := h.2 q o List.not_mem_nil e
theorem Fx.app {S T : Sto} : Fx [] S (S ++ T) := ⟨by simp, fun _ _ _ h => get_app h⟩
theorem Fx.set {S : Sto} {n : Nat} {o : Ob} : Fx [n] S (S.set n o) := ⟨by simp, fun q o hq h => by
  rw [List.getElem?_set_ne (fun e => hq (by simp [e]))]; exact h⟩
theorem Fx.step {ms : List Nat} {S0 S S' : Sto} (a : Fx [] S0 S) (b : Fx ms S S') (c : ∀ m ∈ ms, S0.length ≤ m) : Fx [] S0 S' :=
  ⟨Nat.le_trans a.1 b.1, fun q o _ h => b.2 q o (fun z => by have := c q z; have := (List.getElem?_eq_some_iff.mp h).1; omega) (a.get0 h)⟩
theorem Fx.trans {S0 S S' : Sto} (a : Fx [] S0 S) (b : Fx [] S S') : Fx [] S0 S' := a.step b fun _ h => by cases h
theorem Fx.ex {S S' : Sto} (h : Fx [] S S') : ∃ T, S' = S ++ T := prefix_of fun a ha => by
  rw [h.get0 (List.getElem?_eq_getElem ha), List.getElem?_eq_getElem ha]
theorem Fx.more {ns ms : List Nat} {S S' : Sto} (h : Fx ns S S') (s : ∀ x ∈ ns, x ∈ ms) : Fx ms S S' := ⟨h.1, fun q o n e => h.2 q o (fun z => n (s q z)) e⟩
theorem Fx.comp {ns ms : List Nat} {S S1 S2 : Sto} (a : Fx ns S S1) (b : Fx ms S1 S2) : Fx (ns ++ ms) S S2 :=
  ⟨Nat.le_trans a.1 b.1, fun q o n e => b.2 q o (fun z => n (by simp [z])) (a.2 q o (fun z => n (by simp [z])) e)⟩
theorem le_tr {S0 S1 : Sto} {n : Nat} (h : S1.length ≤ n) (h' : S0.length ≤ S1.length) : S0.length ≤ n := Nat.le_trans h' h
theorem le_fx {ns : List Nat} {S0 S1 S2 : Sto} (h : Fx ns S1 S2) (h' : S0.length ≤ S1.length) : S0.length ≤ S2.length := Nat.le_trans h' h.1
theorem nin1 {q n : Nat} (h : q ≠ n) : q ∉ [n] := by simp [h]
theorem nin2 {q n : Nat} {ns : List Nat} (h : q ≠ n) (h2 : q ∉ ns) : q ∉ n :: ns := by simp [h, h2]
theorem ne_birth {S : Sto} {q n : Nat} {o : Ob} (h : S.length ≤ n) (e : S[q]? = some o) : q ≠ n := by
  have := (List.getElem?_eq_some_iff.mp e).1; omega
theorem ne_birth' {S : Sto} {q n : Nat} {o : Ob} (h : S.length ≤ n) (e : S[q]? = some o) : n ≠ q := (ne_birth h e).symm
theorem Fx.tks {S S' : Sto} {vs : List Va} {ts : List (Nat × Nat)} (h : Fx [] S S') (t : Tks S vs ts) : Tks S' vs ts := Paired.imp (fun _ _ ⟨q, e1, e2⟩ => ⟨q, e1, h.get0 e2⟩) t
theorem Fx.tks1 {S S' : Sto} {n : Nat} {xs vs : List Va} {ts : List (Nat × Nat)} (h : Fx [n] S S') (e : S[n]? = some (.lst xs)) (t : Tks S vs ts) : Tks S' vs ts :=
  Paired.imp (fun _ _ ⟨q, e1, e2⟩ => ⟨q, e1, h.get (nin1 fun z => by subst z; rw [e] at e2; cases e2) e2⟩) t
theorem Fx.tl {S S' : Sto} {p n : Nat} {ts : List (Nat × Nat)} (h : Fx [] S S') (t : TL S p n ts) : TL S' p n ts := by
  obtain ⟨T, rfl⟩ := h.ex; exact t.app
theorem sameFx {ns : List Nat} {S S' : Sto} {n : Nat} {o : Ob} (e : S[n]? = some o) (e' : S'[n]? = some o) : sameAt S (.ref n) S' = true := by simp [sameAt, e, e']
/-! ### expressions -/
section
variable {ρ : Env} {S : Sto} {a b c o e : IE} {t u : IT} {i j : IS} {A : IA} {f : Str} {Q : Va → Sto → Prop} {QB : Bool → Sto → Prop} {QA : List Va → Sto → Prop} {N : Env → Sto → Prop} {T : Va → Sto → Prop}
theorem w_ok {α : Type} {v : α} {Q : α → Sto → Prop} (h : Q v S) : OkR (.ok v S) Q := h
theorem w_var {k : Nat} {v : Va} (e : ρ[k]? = some (some v)) (h : Q v S) : OkR (iVar k ρ S) Q := by rw [x_var, e]; exact h
theorem w_c {v : Va} (h : Q v S) : OkR (iC v ρ S) Q := h
theorem w_op {f : Va → Va → Sto → R Va} (h : OkR (a ρ S) fun x S1 => OkR (b ρ S1) fun y S2 => OkR (f x y S2) Q) : OkR (iOp f a b ρ S) Q := by
  rw [x_op]; exact ok_bind (h.imp fun _ _ h => ok_bind h)
theorem w_un {f : Va → Sto → R Va} (h : OkR (a ρ S) fun x S1 => OkR (f x S1) Q) : OkR (iUn f a ρ S) Q := ok_bind h
theorem w_nil (h : QA [] S) : OkR (iNil ρ S) QA := h
theorem w_cons (h : OkR (a ρ S) fun x S1 => OkR (A ρ S1) fun xs S2 => QA (x :: xs) S2) : OkR (iCons a A ρ S) QA := ok_bind (h.imp fun _ _ h => ok_bind h)
theorem w_cb {f : List Va → Sto → R Va} (h : OkR (A ρ S) fun xs S1 => OkR (f xs S1) Q) : OkR (iCB f A ρ S) Q := ok_bind h
theorem w_call {F : Fn} (h : OkR (A ρ S) fun xs S1 => OkR (F xs S1) Q) : OkR (iCall F A ρ S) Q := ok_bind h
theorem w_B (h : OkR (a ρ S) fun x S1 => OkR (asB x S1) QB) : OkR (iB a ρ S) QB := ok_bind h
theorem w_asB {k : Bool} (h : QB k S) : OkR (asB (.bl k) S) QB := h
theorem w_and (h : OkR (t ρ S) fun c S1 => OkR (if c = true then u ρ S1 else .ok false S1) QB) : OkR (iAnd t u ρ S) QB := ok_bind h
theorem w_or (h : OkR (t ρ S) fun c S1 => OkR (if c = true then .ok true S1 else u ρ S1) QB) : OkR (IL.iOr t u ρ S) QB := ok_bind h
theorem w_not (h : OkR (t ρ S) fun c S1 => QB (!c) S1) : OkR (iNot t ρ S) QB := ok_bind h
theorem w_yes (h : QB true S) : OkR (iYes ρ S) QB := h
theorem w_andV (h : OkR (a ρ S) fun x S1 => OkR (asB x S1) fun c S1 => OkR (if c = true then b ρ S1 else .ok (.bl false) S1) Q) : OkR (iAndV a b ρ S) Q := ok_bind (h.imp fun _ _ h => ok_bind h)
theorem w_orV (h : OkR (a ρ S) fun x S1 => OkR (asB x S1) fun c S1 => OkR (if c = true then .ok (.bl true) S1 else b ρ S1) Q) : OkR (iOrV a b ρ S) Q := ok_bind (h.imp fun _ _ h => ok_bind h)
theorem w_notV (h : OkR (a ρ S) fun x S1 => OkR (asB x S1) fun c S1 => Q (.bl (!c)) S1) : OkR (iNotV a ρ S) Q := ok_bind (h.imp fun _ _ h => ok_bind h)
theorem w_ife (h : OkR (t ρ S) fun c S1 => OkR (if c = true then a ρ S1 else b ρ S1) Q) : OkR (iIf t a b ρ S) Q := ok_bind h
theorem w_chain {f f' : Va → Va → Sto → R Va} (h : OkR (a ρ S) fun x S1 => OkR (b ρ S1) fun y S2 => OkR (f x y S2) fun z S3 => OkR (asB z S3) fun k S3 => OkR (if k = true then (c ρ S3).bind fun w S4 => f' y w S4 else .ok (.bl false) S3) Q) : OkR (iChain f f' a b c ρ S) Q := by
  rw [x_chain]
  exact ok_bind (h.imp fun _ _ h => ok_bind (h.imp fun _ _ h => ok_bind (h.imp fun _ _ h => ok_bind h)))
theorem w_bind {α : Type} {r : R α} {k : α → Sto → R Va} (h : OkR r fun a S => OkR (k a S) Q) : OkR (r.bind k) Q := ok_bind h
/-- laid anew -/
theorem w_new {o : Ob} (h : ∀ p S2, S.length ≤ p → Fx [] S S2 → S2[p]? = some o → Q (.ref p) S2) : Q (.ref S.length) (S ++ [o]) := h _ _ (Nat.le_refl _) Fx.app get_n0
theorem w_lst (h : OkR (A ρ S) fun xs S1 => ∀ p S2, S1.length ≤ p → Fx [] S1 S2 → S2[p]? = some (.lst xs) → Q (.ref p) S2) : OkR (iLst A ρ S) Q := ok_bind (h.imp fun _ _ h => w_new h)
theorem w_tup (h : OkR (A ρ S) fun xs S1 => ∀ p S2, S1.length ≤ p → Fx [] S1 S2 → S2[p]? = some (.tup xs) → Q (.ref p) S2) : OkR (IL.iTup A ρ S) Q := ok_bind (h.imp fun _ _ h => w_new h)
theorem w_dnew (h : ∀ p S2, S.length ≤ p → Fx [] S S2 → S2[p]? = some (.dic []) → Q (.ref p) S2) : OkR (iDNew ρ S) Q := by
  rw [x_dnew]; exact w_new h
theorem w_fld (h : OkR (a ρ S) fun x S1 => ∃ k c fs v, x = .ref k ∧ S1[k]? = some (.obj c fs) ∧ c ∈ clsL ∧ fs.lookup f = some v ∧ Q v S1) : OkR (iFld a f ρ S) Q := by
  rw [x_fld]
  refine ok_bind (h.imp fun x S1 h => ?_)
  obtain ⟨k, c, fs, v, rfl, h1, h2, h3, h4⟩ := h
  simp only [getO, h1, h2, if_true, h3]
  exact h4
theorem w_bm {f : Va → List Va → Sto → R Va} (h : OkR (o ρ S) fun x S1 => ∃ xs, getL S1 x = some xs ∧ OkR (A ρ S1) fun ys S2 => OkR (f x ys S2) Q) : OkR (iBM f o A ρ S) Q := by
  rw [x_bm]
  refine ok_bind (h.imp fun x S1 h => ?_)
  obtain ⟨xs, h1, h2⟩ := h
  simp only [h1]
  exact ok_bind h2
theorem w_bm' {f : Va → List Va → Sto → R Va} {p : Nat} {xs : List Va} (h1 : S[p]? = some (.lst xs)) (h : OkR (A ρ S) fun ys S2 => OkR (f (.ref p) ys S2) Q) : ∃ xs, getL S (.ref p) = some xs ∧ OkR (A ρ S) fun ys S2 => OkR (f (.ref p) ys S2) Q := ⟨xs, getL_ref h1, h⟩
theorem w_append {p : Nat} {xs : List Va} {y : Va} (h1 : S[p]? = some (.lst xs)) (hl : xs.length < 100000) (h : ∀ S2, Fx [p] S S2 → S2[p]? = some (.lst (xs ++ [y])) → Q .non S2) : OkR (mAppend (.ref p) [y] S) Q := by
  simp only [mAppend, h1, hl, if_true]
  exact h _ Fx.set (List.getElem?_set_self (List.getElem?_eq_some_iff.mp h1).1)
theorem w_rev {p : Nat} {xs : List Va} (h1 : S[p]? = some (.lst xs)) (h : ∀ S2, Fx [p] S S2 → S2[p]? = some (.lst xs.reverse) → Q .non S2) : OkR (mReverse (.ref p) [] S) Q := by
  simp only [mReverse, h1]
  exact h _ Fx.set (List.getElem?_set_self (List.getElem?_eq_some_iff.mp h1).1)
theorem w_pop {p : Nat} {xs : List Va} {y : Va} (h1 : S[p]? = some (.lst (xs ++ [y]))) (h : ∀ S2, Fx [p] S S2 → S2[p]? = some (.lst xs) → Q y S2) : OkR (mPop (.ref p) [] S) Q := by
  simp only [mPop, h1]
  simp only [List.length_append, List.length_cons, List.length_nil, Nat.zero_add, Nat.add_sub_cancel, List.getElem?_append_right (Nat.le_refl xs.length), Nat.sub_self, List.getElem?_cons_zero, List.dropLast_concat]
  exact h _ Fx.set (List.getElem?_set_self (List.getElem?_eq_some_iff.mp h1).1)
theorem w_setL {p k : Nat} {xs : List Va} {v : Va} {QU : Unit → Sto → Prop} (h1 : S[p]? = some (.lst xs)) (hk : k < xs.length) (h : ∀ S2, Fx [p] S S2 → S2[p]? = some (.lst (xs.set k v)) → QU () S2) : OkR (setL (.ref p) (.int (k : Int)) v S) QU := by
  rw [setL_lst h1 hk]
  exact h _ Fx.set (List.getElem?_set_self (List.getElem?_eq_some_iff.mp h1).1)
theorem w_fList {p : Nat} {xs : List Va} (h1 : getQ S (.ref p) = some xs) (h : ∀ p2 S2, S.length ≤ p2 → Fx [] S S2 → S2[p2]? = some (.lst xs) → Q (.ref p2) S2) : OkR (fList [.ref p] S) Q := by
  simp only [fList, h1]; exact w_new h
theorem w_listL {p : Nat} {xs : List Va} (h1 : S[p]? = some (.lst xs)) (h : ∀ p2 S2, S.length ≤ p2 → Fx [] S S2 → S2[p2]? = some (.lst xs) → Q (.ref p2) S2) : OkR (fList [.ref p] S) Q := w_fList (getQ_lst h1) h
theorem w_listT {p : Nat} {xs : List Va} (h1 : S[p]? = some (.tup xs)) (h : ∀ p2 S2, S.length ≤ p2 → Fx [] S S2 → S2[p2]? = some (.lst xs) → Q (.ref p2) S2) : OkR (fList [.ref p] S) Q := w_fList (getQ_tup h1) h
theorem w_ixL {p k : Nat} {xs : List Va} {v : Va} (h1 : S[p]? = some (.lst xs)) (hk : xs[k]? = some v) (h : Q v S) : OkR (fIx (.ref p) (.int (k : Int)) S) Q := by rw [fIx_lst h1 hk]; exact h
theorem w_ixT {p k : Nat} {xs : List Va} {v : Va} (h1 : S[p]? = some (.tup xs)) (hk : xs[k]? = some v) (h : Q v S) : OkR (fIx (.ref p) (.int (k : Int)) S) Q := by rw [fIx_tup h1 hk]; exact h
theorem w_ixLN {p k x : Nat} {xs : List Nat} (h1 : S[p]? = some (LN xs)) (hk : xs[k]? = some x) (h : Q (vN x) S) : OkR (fIx (.ref p) (vN k) S) Q := w_ixL h1 (vN_get hk) h
theorem w_ixLv {p k : Nat} {xs : List Va} {v : Va} (h1 : S[p]? = some (.lst xs)) (hk : xs[k]? = some v) (h : Q v S) : OkR (fIx (.ref p) (vN k) S) Q := w_ixL h1 hk h
theorem w_ix0 {p : Nat} {v : Va} {xs : List Va} (h1 : S[p]? = some (.lst (v :: xs))) (h : Q v S) : OkR (fIx (.ref p) (.int 0) S) Q := w_ixL (k := 0) h1 rfl h
theorem w_ix1 {p : Nat} {v w : Va} {xs : List Va} (h1 : S[p]? = some (.lst (w :: v :: xs))) (h : Q v S) : OkR (fIx (.ref p) (.int 1) S) Q := w_ixL (k := 1) h1 rfl h
theorem w_ixt0 {p : Nat} {v : Va} {xs : List Va} (h1 : S[p]? = some (.tup (v :: xs))) (h : Q v S) : OkR (fIx (.ref p) (.int 0) S) Q := w_ixT (k := 0) h1 rfl h
theorem w_ixt1 {p : Nat} {v w : Va} {xs : List Va} (h1 : S[p]? = some (.tup (w :: v :: xs))) (h : Q v S) : OkR (fIx (.ref p) (.int 1) S) Q := w_ixT (k := 1) h1 rfl h
theorem w_len {p : Nat} {xs : List Va} (h1 : S[p]? = some (.lst xs)) (h : Q (vN xs.length) S) : OkR (fLen [.ref p] S) Q := by simp only [fLen, getQ_lst h1]; exact h
theorem w_lenN {p : Nat} {xs : List Nat} (h1 : S[p]? = some (LN xs)) (h : Q (vN xs.length) S) : OkR (fLen [.ref p] S) Q := by rw [fLen_N h1]; exact h
theorem w_II {k : Int → Int → Va} {x y : Int} (h : Q (k x y) S) : OkR (fII k (.int x) (.int y) S) Q := h
theorem w_add {x y : Int} (h : Q (.int (x + y)) S) : OkR (fAdd (.int x) (.int y) S) Q := h
theorem w_IINI {k : Int → Int → Va} {x : Nat} {y : Int} (h : Q (k x y) S) : OkR (fII k (vN x) (.int y) S) Q := h
theorem w_IIIN {k : Int → Int → Va} {x : Int} {y : Nat} (h : Q (k x y) S) : OkR (fII k (.int x) (vN y) S) Q := h
theorem w_IINN {k : Int → Int → Va} {x y : Nat} (h : Q (k x y) S) : OkR (fII k (vN x) (vN y) S) Q := h
theorem w_addNI {x : Nat} {y : Int} (h : Q (.int (x + y)) S) : OkR (fAdd (vN x) (.int y) S) Q := h
theorem w_addIN {x : Int} {y : Nat} (h : Q (.int (x + y)) S) : OkR (fAdd (.int x) (vN y) S) Q := h
theorem w_addNN {x y : Nat} (h : Q (vN (x + y)) S) : OkR (fAdd (vN x) (vN y) S) Q := by
  show Q (.int ((x : Int) + y)) S
  have : Va.int ((x : Int) + y) = vN (x + y) := by simp [vN]
  rw [this]; exact h
theorem w_neg {x : Int} (h : Q (.int (-x)) S) : OkR (fNeg (.int x) S) Q := h
theorem w_isB {x y : Bool} (h : Q (.bl (decide (x = y))) S) : OkR (fIs (.bl x) (.bl y) S) Q := h
theorem w_isNB {x y : Bool} (h : Q (.bl (!decide (x = y))) S) : OkR (fIsNot (.bl x) (.bl y) S) Q := h
/-! ### statements -/
theorem w_next (h : N ρ S) : OkO (sNext ρ S) N T := h
theorem w_seq (h : OkO (i ρ S) (fun ρ S => OkO (j ρ S) N T) T) : OkO (sSeq i j ρ S) N T := ok_seq h
theorem w_asg {tg : IG} (h : OkR (e ρ S) fun x S1 => OkR (tg (.one x) ρ S1) fun ρ' S2 => N ρ' S2) : OkO (sAsg e tg ρ S) N T := by
  rw [x_asg]; exact ok_toO (h.imp fun _ _ h => ok_toO h)
theorem w_name {k : Nat} {v : Va} {QE : Env → Sto → Prop} (h : QE (ρ.set k (some v)) S) : OkR (tgName k (.one v) ρ S) QE := h
theorem w_sub {v : Va} {QE : Env → Sto → Prop} (h : OkR (a ρ S) fun x S1 => OkR (b ρ S1) fun y S2 => OkR (setL x y v S2) fun _ S3 => QE ρ S3) : OkR (tgSub a b (.one v) ρ S) QE := by
  rw [x_tgSub]
  exact ok_bind (h.imp fun _ _ h => ok_bind (h.imp fun _ _ h => ok_bind h))
theorem w_tgt {n : Nat} {ts : List IG} {vs : List Va} {QE : Env → Sto → Prop} (hl : vs.length = n) (h : OkR (runTgs ts vs ρ S) QE) : OkR (tgTupN n ts (.tup vs) ρ S) QE := by rw [x_tgTup, if_pos hl]; exact h
theorem w_tgt1 {n p : Nat} {ts : List IG} {vs : List Va} {QE : Env → Sto → Prop} (h1 : S[p]? = some (.tup vs)) (hl : vs.length = n) (h : OkR (runTgs ts vs ρ S) QE) : OkR (tgTupN n ts (.one (.ref p)) ρ S) QE := by rw [x_tgTup1, getT_ref h1]; simp only [hl, if_true]; exact h
theorem w_run0 {QE : Env → Sto → Prop} (h : QE ρ S) : OkR (runTgs [] [] ρ S) QE := h
theorem w_run1 {t : IG} {ts : List IG} {v : Va} {vs : List Va} {QE : Env → Sto → Prop} (h : OkR (t (.one v) ρ S) fun ρ1 S1 => OkR (runTgs ts vs ρ1 S1) QE) : OkR (runTgs (t :: ts) (v :: vs) ρ S) QE := ok_bind h
theorem w_par {k l : Nat} (h : OkR (A ρ S) fun xs S1 => ∃ x y, xs = [x, y] ∧ N ((ρ.set k (some x)).set l (some y)) S1) : OkO (sPar k l A ρ S) N T := by
  rw [x_par]; exact ok_toO (h.imp fun _ _ ⟨x, y, e, h⟩ => by subst e; exact h)
theorem w_par3 {k l m : Nat} (h : OkR (A ρ S) fun xs S1 => ∃ x y z, xs = [x, y, z] ∧ N (((ρ.set k (some x)).set l (some y)).set m (some z)) S1) : OkO (sPar3 k l m A ρ S) N T := by
  rw [x_par3]; exact ok_toO (h.imp fun _ _ ⟨x, y, z, e, h⟩ => by subst e; exact h)
theorem w_expr (h : OkR (e ρ S) fun _ S1 => N ρ S1) : OkO (sExpr e ρ S) N T := ok_toO h
theorem w_ret (h : OkR (e ρ S) T) : OkO (sRet e ρ S) N T := ok_toO h
theorem w_retN (h : T .non S) : OkO (sRetN ρ S) N T := h
theorem w_if (h : OkR (t ρ S) fun k S1 => OkO (if k = true then i ρ S1 else j ρ S1) N T) : OkO (sIf t i j ρ S) N T := ok_toO h
theorem w_iT {k : Bool} (e : k = true) (h : OkO (i ρ S) N T) : OkO (if k = true then i ρ S else j ρ S) N T := by rw [if_pos e]; exact h
theorem w_iF {k : Bool} (e : k = false) (h : OkO (j ρ S) N T) : OkO (if k = true then i ρ S else j ρ S) N T := by rw [e]; exact h
theorem w_eT {α : Type} {k : Bool} {x y : R α} {Q : α → Sto → Prop} (e : k = true) (h : OkR x Q) : OkR (if k = true then x else y) Q := by rw [if_pos e]; exact h
theorem w_eF {α : Type} {k : Bool} {x y : R α} {Q : α → Sto → Prop} (e : k = false) (h : OkR y Q) : OkR (if k = true then x else y) Q := by rw [e]; exact h
theorem w_aug {k : Nat} {x : Int} (e1 : ρ[k]? = some (some (.int x))) (h : OkR (e ρ S) fun y S1 => ∃ z, y = .int z ∧ N (ρ.set k (some (.int (x + z)))) S1) : OkO (sAug k e ρ S) N T := by
  rw [x_aug, e1]; exact ok_toO (h.imp fun _ _ ⟨z, q, h⟩ => by subst q; exact h)
theorem w_mk {F : Fn} {p n : Nat} {b : IS} {xs : List Va} (e : F = mkFn p n b) (hl : xs.length = p) (h : OkO (b (xs.map some ++ List.replicate (n - xs.length) none) S) (fun _ S => Q .non S) Q) : OkR (F xs S) Q := by
  subst e
  unfold mkFn
  rw [if_pos hl]
  revert h
  generalize b (xs.map some ++ List.replicate (n - xs.length) none) S = o
  intro h
  cases o with
  | nx ρ S => exact h
  | rt v S => exact h
  | ex c ρ S => exact h.elim
  | no => exact h.elim
/-! ### loops -/
theorem w_forI {chk : Sto → Bool} {tg : IG} {body : IS} (Inv : Nat → Env → Sto → Prop) (its : List It1) (h0 : Inv 0 ρ S)
    (hs : ∀ j it ρ S, its[j]? = some it → Inv j ρ S → chk S = true ∧ OkR (tg it ρ S) fun ρ1 S1 => OkO (body ρ1 S1) (Inv (j + 1)) T)
    (he : ∀ ρ S, Inv its.length ρ S → chk S = true ∧ N ρ S) : OkO (forL chk tg body its ρ S) N T := by
  refine for_rule (G := fun o => OkO o N T) Inv its 0 ρ S h0 (fun j it ρ S e i => ?_) fun ρ S i => ?_
  · rw [Nat.zero_add] at i ⊢
    obtain ⟨h1, h2⟩ := hs j it ρ S e i
    obtain ⟨ρ1, S1, h3, h4⟩ := h2.ex
    refine ⟨h1, ρ1, S1, h3, ?_⟩
    cases hb : body ρ1 S1 with
    | nx ρ S => rw [hb] at h4; exact h4
    | rt v S => rw [hb] at h4; exact h4
    | ex c ρ S => rw [hb] at h4; exact h4.elim
    | no => rw [hb] at h4; exact h4.elim
  · rw [Nat.zero_add] at i
    obtain ⟨h1, h2⟩ := he ρ S i
    exact ⟨h1, h2⟩
theorem w_for {ii : II} {tg : IG} (h : OkR (ii ρ S) fun I S1 => OkO (forL I.chk tg i I.items ρ S1) N T) : OkO (sFor ii tg i ρ S) N T := ok_toO h
theorem w_itList {QI : Its → Sto → Prop} (h : OkR (a ρ S) fun x S1 => ∃ p xs, x = .ref p ∧ S1[p]? = some (.lst xs) ∧ QI ⟨xs.map .one, sameAt S1 (.ref p)⟩ S1) : OkR (itList a ρ S) QI := by
  rw [x_itList]
  refine ok_bind (h.imp fun x S1 ⟨p, xs, e, h1, h2⟩ => ?_)
  subst e
  simp only [getL_ref h1]; exact h2
theorem w_itTup {QI : Its → Sto → Prop} (h : OkR (a ρ S) fun x S1 => ∃ p xs, x = .ref p ∧ S1[p]? = some (.tup xs) ∧ QI ⟨xs.map .one, sameAt S1 (.ref p)⟩ S1) : OkR (itTup a ρ S) QI := by
  rw [x_itTup]
  refine ok_bind (h.imp fun x S1 ⟨p, xs, e, h1, h2⟩ => ?_)
  subst e
  simp only [getT_ref h1]; exact h2
theorem w_itEnum {QI : Its → Sto → Prop} (h : OkR (a ρ S) fun x S1 => ∃ p xs, x = .ref p ∧ S1[p]? = some (.lst xs) ∧ QI ⟨enuI 0 xs, sameAt S1 (.ref p)⟩ S1) : OkR (itEnum a ρ S) QI := by
  rw [x_itEnum]
  refine ok_bind (h.imp fun x S1 ⟨p, xs, e, h1, h2⟩ => ?_)
  subst e
  simp only [getL_ref h1]; exact h2
theorem w_itZip {QI : Its → Sto → Prop} (h : OkR (a ρ S) fun x S1 => OkR (b ρ S1) fun y S2 => ∃ p xs q ys, x = .ref p ∧ y = .ref q ∧ S2[p]? = some (.lst xs) ∧ S2[q]? = some (.lst ys) ∧ QI ⟨zipI xs ys, fun S => sameAt S2 (.ref p) S && sameAt S2 (.ref q) S⟩ S2) : OkR (itZip a b ρ S) QI := by
  rw [x_itZip]
  refine ok_bind (h.imp fun x S1 h => ok_bind (h.imp fun y S2 ⟨p, xs, q, ys, e1, e2, h1, h2, h3⟩ => ?_))
  subst e1 e2
  simp only [getL_ref h1, getL_ref h2]; exact h3
theorem w_itRng {QI : Its → Sto → Prop} (h : OkR (a ρ S) fun x S1 => ∃ n : Int, x = .int n ∧ -100000 ≤ n ∧ n ≤ 100000 ∧ QI ⟨(rng 0 n).map fun i => .one (.int i), fun _ => true⟩ S1) : OkR (itRng a ρ S) QI := by
  rw [x_itRng]
  refine ok_bind (h.imp fun x S1 ⟨n, e, h1, h2, h3⟩ => ?_)
  subst e
  simp only [h1, h2, and_self, if_true]; exact h3
theorem w_fL {tg : IG} {body : IS} {S0 : Sto} {p : Nat} {ob : Ob} {xs : List Va} (Inv : Nat → Env → Sto → Prop) (hp : S0[p]? = some ob) (h0 : Inv 0 ρ S)
    (hs : ∀ j v ρ S, xs[j]? = some v → Inv j ρ S → S[p]? = some ob ∧ OkR (tg (.one v) ρ S) fun ρ1 S1 => OkO (body ρ1 S1) (Inv (j + 1)) T)
    (he : ∀ ρ S, Inv xs.length ρ S → S[p]? = some ob ∧ N ρ S) : OkO (forL (sameAt S0 (.ref p)) tg body (xs.map .one) ρ S) N T := by
  refine w_forI Inv _ h0 (fun j it ρ S e i => ?_) fun ρ S i => ?_
  · obtain ⟨v, e1, rfl⟩ := map_one_get e
    obtain ⟨h1, h2⟩ := hs j v ρ S e1 i
    exact ⟨sameFx (ns := []) hp h1, h2⟩
  · rw [List.length_map] at i
    obtain ⟨h1, h2⟩ := he ρ S i
    exact ⟨sameFx (ns := []) hp h1, h2⟩
theorem w_fE {tg : IG} {body : IS} {S0 : Sto} {p : Nat} {ob : Ob} {xs : List Va} (Inv : Nat → Env → Sto → Prop) (hp : S0[p]? = some ob) (h0 : Inv 0 ρ S)
    (hs : ∀ j v ρ S, xs[j]? = some v → Inv j ρ S → S[p]? = some ob ∧ OkR (tg (.tup [vN j, v]) ρ S) fun ρ1 S1 => OkO (body ρ1 S1) (Inv (j + 1)) T)
    (he : ∀ ρ S, Inv xs.length ρ S → S[p]? = some ob ∧ N ρ S) : OkO (forL (sameAt S0 (.ref p)) tg body (enuI 0 xs) ρ S) N T := by
  refine w_forI Inv _ h0 (fun j it ρ S e i => ?_) fun ρ S i => ?_
  · obtain ⟨v, e1, rfl⟩ := enuI_get0 e
    obtain ⟨h1, h2⟩ := hs j v ρ S e1 i
    exact ⟨sameFx (ns := []) hp h1, h2⟩
  · rw [enuI_length] at i
    obtain ⟨h1, h2⟩ := he ρ S i
    exact ⟨sameFx (ns := []) hp h1, h2⟩
theorem w_fZ {tg : IG} {body : IS} {S0 : Sto} {p q : Nat} {xs ys : List Va} {o1 o2 : Ob} (Inv : Nat → Env → Sto → Prop) (hp : S0[p]? = some o1) (hq : S0[q]? = some o2) (h0 : Inv 0 ρ S)
    (hs : ∀ j v w ρ S, xs[j]? = some v → ys[j]? = some w → Inv j ρ S → S[p]? = some o1 ∧ S[q]? = some o2 ∧ OkR (tg (.tup [v, w]) ρ S) fun ρ1 S1 => OkO (body ρ1 S1) (Inv (j + 1)) T)
    (he : ∀ ρ S, Inv (min xs.length ys.length) ρ S → S[p]? = some o1 ∧ S[q]? = some o2 ∧ N ρ S) : OkO (forL (fun S' => sameAt S0 (.ref p) S' && sameAt S0 (.ref q) S') tg body (zipI xs ys) ρ S) N T := by
  refine w_forI Inv _ h0 (fun j it ρ S e i => ?_) fun ρ S i => ?_
  · obtain ⟨v, w, e1, e2, rfl⟩ := zipI_get _ _ _ _ e
    obtain ⟨h1, h2, h3⟩ := hs j v w ρ S e1 e2 i
    exact ⟨by rw [sameFx (ns := []) hp h1, sameFx (ns := []) hq h2]; rfl, h3⟩
  · rw [zipI_length] at i
    obtain ⟨h1, h2, h3⟩ := he ρ S i
    exact ⟨by rw [sameFx (ns := []) hp h1, sameFx (ns := []) hq h2]; rfl, h3⟩
theorem rng0 (m : Nat) : (rng 0 (m : Int)).map (fun i => It1.one (.int i)) = (List.range m).map fun i => It1.one (vN i) := by
  unfold rng
  rw [List.map_map, Int.sub_zero, Int.toNat_natCast]
  apply List.map_congr_left
  intro x _
  simp [vN]
theorem w_fR {tg : IG} {body : IS} {m : Nat} (Inv : Nat → Env → Sto → Prop) (h0 : Inv 0 ρ S)
    (hs : ∀ j ρ S, j < m → Inv j ρ S → OkR (tg (.one (vN j)) ρ S) fun ρ1 S1 => OkO (body ρ1 S1) (Inv (j + 1)) T)
    (he : ∀ ρ S, Inv m ρ S → N ρ S) : OkO (forL (fun _ => true) tg body ((rng 0 (m : Int)).map fun i => .one (.int i)) ρ S) N T := by
  rw [rng0]
  refine w_forI Inv _ h0 (fun j it ρ S e i => ?_) fun ρ S i => ?_
  · obtain ⟨v, e1, rfl⟩ := map_get e
    have hj : j < m := by have := (List.getElem?_eq_some_iff.mp e1).1; simpa using this
    have : v = j := by rw [List.getElem?_range hj] at e1; exact (Option.some.inj e1).symm
    subst this
    exact ⟨rfl, hs _ ρ S hj i⟩
  · rw [List.length_map, List.length_range] at i
    exact ⟨rfl, he ρ S i⟩
theorem w_while {c : IT} {body : IS} (W : Nat → Env → Sto → Prop) {m : Nat} (h : W m ρ S)
    (hs : ∀ m ρ S, W m ρ S → OkR (c ρ S) fun b S1 => if b = true then OkO (body ρ S1) (fun ρ2 S2 => ∃ m', m' < m ∧ W m' ρ2 S2) T else N ρ S1) : OkO (sWhile c body ρ S) N T := by
  refine while_rule (G := fun o => OkO o N T) (fun h => h) W (fun m ρ S w => ?_) h
  obtain ⟨b, S1, e, h1⟩ := (hs m ρ S w).ex
  refine ⟨b, S1, e, fun hb => ?_, fun hb => ?_⟩
  · rw [hb] at h1; exact h1
  · rw [if_pos hb] at h1
    cases hb : body ρ S1 with
    | nx ρ S => rw [hb] at h1; exact h1
    | rt v S => rw [hb] at h1; exact h1
    | ex c ρ S => rw [hb] at h1; exact h1.elim
    | no => rw [hb] at h1; exact h1.elim
/-! ### comprehensions -/
/-- one turn -/
def LcT (chk : Sto → Bool) (tg : IG) (tt : IT) (ie : IE) (ρ : Env) (S0 : Sto) (it : It1) (o : Option Va) : Prop := ∀ S, Fx [] S0 S → chk S = true ∧ OkR (tg it ρ S) fun ρ1 S1 => OkR (tt ρ1 S1) fun b S2 => b = o.isSome ∧ (b = true → OkR (ie ρ1 S2) fun v S3 => o = some v ∧ Fx [] S0 S3) ∧ (b = false → Fx [] S0 S2)
theorem lc_all {chk : Sto → Bool} {tg : IG} {tt : IT} {ie : IE} {ρ : Env} {S0 : Sto} (hc : ∀ S, Fx [] S0 S → chk S = true) : ∀ {its : List It1} {os : List (Option Va)} (S : Sto), Fx [] S0 S → Paired (LcT chk tg tt ie ρ S0) its os → OkR (lcL chk tg tt ie ρ its S) fun ys S' => ys = os.filterMap id ∧ Fx [] S0 S'
  | _, _, S, hS, .nil => by simp only [lcL, hc S hS, if_true]; exact ⟨rfl, hS⟩
  | _, _, S, hS, .cons (a := it) (b := o) q r => by
    obtain ⟨h1, h2⟩ := q S hS
    obtain ⟨ρ1, S1, e1, h3⟩ := h2.ex
    obtain ⟨b, S2, e2, e3, h4, h5⟩ := h3.ex
    simp only [lcL, h1, if_true, e1, R.bindN_ok, e2]
    cases b with
    | false =>
      have ho : o = none := by cases o with | none => rfl | some v => cases e3
      subst ho
      simp only [Bool.false_eq_true, if_false]
      exact (lc_all hc S2 (h5 rfl) r).imp fun _ _ ⟨a, b⟩ => ⟨by rw [a]; rfl, b⟩
    | true =>
      obtain ⟨v, S3, e4, e5, h6⟩ := (h4 rfl).ex
      subst e5
      simp only [if_true, e4, R.bindN_ok]
      obtain ⟨ys, S4, e6, e7, h7⟩ := (lc_all hc S3 h6 r).ex
      rw [e6, R.bindN_ok]
      refine ⟨?_, h7⟩
      rw [e7]; rfl
theorem w_lc {ii : II} {tg : IG} {tt : IT} {ie : IE} {vs : List Nat} (h : OkR (ii ρ S) fun I S1 => I.items.length ≤ 100000 ∧ ∃ os, (∀ S, Fx [] S1 S → I.chk S = true) ∧ Paired (LcT I.chk tg tt ie (wipeE ρ vs) S1) I.items os ∧ ∀ p S2, S1.length ≤ p → Fx [] S1 S2 → S2[p]? = some (.lst (os.filterMap id)) → Q (.ref p) S2) : OkR (iLc ii tg tt ie vs ρ S) Q := by
  unfold iLc
  refine ok_bind (h.imp fun I S1 ⟨h1, os, h2, h3, h4⟩ => ?_)
  rw [if_pos h1]
  obtain ⟨ys, S2, e, e1, h5⟩ := (lc_all h2 S1 Fx.refl h3).ex
  rw [e, R.bindN_ok]
  subst e1
  exact h4 _ _ h5.le (h5.trans Fx.app) get_n0
theorem env_set {ρ ρ' : Env} {v : Nat} (h : ∀ j, j ≠ v → ρ'[j]? = ρ[j]?) (hl : ρ'.length = ρ.length) (hv : v < ρ.length) : ∃ y, ρ' = ρ.set v y := by
  refine ⟨ρ'[v]'(by omega), List.ext_getElem? fun j => ?_⟩
  by_cases e : j = v
  · subst e; rw [List.getElem?_set_self hv, List.getElem?_eq_getElem (by omega)]
  · rw [List.getElem?_set_ne (Ne.symm e), h j e]
theorem OkR.app {α : Type} {r : R α} {a : α} {S T : Sto} {Q : α → Sto → Prop} (e : r = .ok a (S ++ T)) (h : ∀ S', Fx [] S S' → S ++ T = S' → Q a S') : OkR r Q := by rw [e]; exact h _ Fx.app rfl
theorem OkR.grow {α : Type} {r : R α} {a : α} {S : Sto} {Q : α → Sto → Prop} (e : ∃ T, r = .ok a (S ++ T)) (h : ∀ S', Fx [] S S' → Q a S') : OkR r Q := by obtain ⟨T, e⟩ := e; rw [e]; exact h _ Fx.app
theorem OkR.eq {α : Type} {r : R α} {a : α} {S : Sto} (h : OkR r fun x S' => x = a ∧ S' = S) : r = .ok a S := by
  obtain ⟨x, S', e, rfl, rfl⟩ := h.ex
  exact e
/-- a run that leaves all as it was: as in the older texts -/
theorem OkR.old {α : Type} {r : R α} {a : α} {S : Sto} (h : OkR r fun x S' => x = a ∧ Fx [] S S') : ∃ T, r = .ok a (S ++ T) := by
  obtain ⟨x, S', e, rfl, h2⟩ := h.ex
  obtain ⟨T, rfl⟩ := h2.ex
  exact ⟨T, e⟩
theorem w_ixI {p k : Nat} {xs : List Int} {x : Int} {S : Sto} {Q : Va → Sto → Prop} (h1 : S[p]? = some (.lst (xs.map .int))) (hk : xs[k]? = some x) (h : Q (.int x) S) : OkR (fIx (.ref p) (vN k) S) Q := w_ixL h1 (by rw [List.getElem?_map, hk]; rfl) h
end
end IL

end
section
set_option linter.all false
set_option maxRecDepth 100000
set_option maxHeartbeats 1000000
namespace IL
open PySem L2
local macro_rules
  | `(tactic| array_get_dec) => `(tactic| first | assumption | exact Fx.get (by assumption) (by array_mem_dec) (by array_get_dec))
  | `(tactic| array_mem_dec) => `(tactic| first | exact List.not_mem_nil | exact nin1 (by infer_instance) | exact nin2 (by infer_instance) (by array_mem_dec))
  | `(tactic| infer_instance) => `(tactic| first | assumption | (apply Ne.symm; assumption) | exact ne_birth (by assumption) (by array_get_dec) | exact ne_birth' (by assumption) (by array_get_dec))
  | `(tactic| sizeOf_list_dec) => `(tactic| first | exact Fx.refl | assumption | (refine Fx.step ?_ (by assumption) ?_; (focus sizeOf_list_dec); (focus (simp only [List.mem_singleton, List.mem_cons, List.not_mem_nil, forall_eq, forall_eq_or_imp, or_false, false_or, false_implies, implies_true, and_true]; try (repeat' apply And.intro) <;> decreasing_trivial_pre_omega))))
  | `(tactic| decreasing_trivial_pre_omega) => `(tactic| first | assumption | exact Nat.le_refl _ | exact le_fx (by assumption) (by decreasing_trivial_pre_omega) | exact le_tr (by assumption) (by decreasing_trivial_pre_omega))
  | `(tactic| decreasing_trivial) => `(tactic| first | assumption | exact Fx.tks (by assumption) (by decreasing_trivial) | exact Fx.tks1 (by assumption) (by array_get_dec) (by decreasing_trivial))
  | `(tactic| decreasing_tactic) => `(tactic| repeat (first
    | with_reducible first
      | refine w_seq ?_ | refine w_asg ?_ | refine w_if ?_ | refine w_ret ?_ | refine w_expr ?_ | refine w_op ?_ | refine w_c ?_ | refine w_cons ?_ | refine w_nil ?_ | refine w_cb ?_ | refine w_call ?_ | refine w_B ?_ | refine w_asB ?_ | refine w_not ?_ | refine w_notV ?_ | refine w_and ?_ | refine w_or ?_ | refine w_andV ?_ | refine w_orV ?_ | refine w_un ?_ | refine w_ok ?_ | refine w_yes ?_ | refine w_ife ?_ | refine w_next ?_ | refine w_II ?_ | refine w_add ?_ | refine w_IINI ?_ | refine w_IIIN ?_ | refine w_IINN ?_ | refine w_addNI ?_ | refine w_addIN ?_ | refine w_addNN ?_ | refine w_neg ?_ | refine w_isB ?_ | refine w_isNB ?_ | refine w_lst ?_ | refine w_tup ?_ | refine w_run1 ?_ | refine w_run0 ?_ | refine w_sub ?_ | refine w_par ?_ | refine w_for ?_ | refine w_bind ?_ | refine w_chain ?_ | refine w_bm ?_ | refine w_sl ?_ | refine w_noPart ?_ | refine w_part ?_ | refine w_divI (by decide) (by decide) ?_ | refine w_eqNN ?_ | refine w_neNN ?_ | refine w_eqII ?_ | refine w_neII ?_ | refine w_itList ?_ | refine w_itZip ?_ | refine w_itEnum ?_ | refine w_itTup ?_ | refine w_itRng ?_
      | refine w_var (by with_unfolding_all rfl) ?_
      | refine w_iF (by with_unfolding_all rfl) ?_ | refine w_iT (by with_unfolding_all rfl) ?_ | refine w_eF (by with_unfolding_all rfl) ?_ | refine w_eT (by with_unfolding_all rfl) ?_
      | refine w_ixt0 (by with_unfolding_all array_get_dec) ?_ | refine w_ixt1 (by with_unfolding_all array_get_dec) ?_ | refine w_ix0 (by with_unfolding_all array_get_dec) ?_ | refine w_ix1 (by with_unfolding_all array_get_dec) ?_ | refine w_bm' (by with_unfolding_all array_get_dec) ?_ | refine ⟨_, _, rfl, by with_unfolding_all array_get_dec, ?_⟩ | refine ⟨_, _, rfl, ?_⟩ | refine ⟨_, rfl, ?_⟩
    | (with_reducible refine w_name ?_; dsimp only [List.set])))

section
variable {ρ : Env} {S : Sto} {a b c o e : IE} {Q : Va → Sto → Prop}
theorem w_sl {lo hi : IL.IO} (h : OkR (a ρ S) fun x S1 => OkR (lo ρ S1) fun l S2 => OkR (hi ρ S2) fun h S3 => ∃ xs, getL S3 x = some xs ∧ ∀ p S4, S3.length ≤ p → Fx [] S3 S4 → S4[p]? = some (.lst (cut xs l h)) → Q (.ref p) S4) : OkR (iSl a lo hi ρ S) Q := by
  rw [x_sl]
  refine ok_bind (h.imp fun x S1 h => ok_bind (h.imp fun l S2 h => ok_bind (h.imp fun hh S3 ⟨xs, e, h⟩ => ?_)))
  simp only [e]
  exact w_new h
theorem w_noPart {QO : Option Int → Sto → Prop} (h : QO none S) : OkR (iNoPart ρ S) QO := h
theorem w_part {QO : Option Int → Sto → Prop} (h : OkR (a ρ S) fun x S1 => ∃ i, x = .int i ∧ QO (some i) S1) : OkR (iPart a ρ S) QO := by
  rw [x_part]
  exact ok_bind (h.imp fun x S1 ⟨i, e, h⟩ => by subst e; exact h)
theorem w_revE (h : OkR (a ρ S) fun x S1 => ∃ xs, getL S1 x = some xs ∧ ∀ p S4, S1.length ≤ p → Fx [] S1 S4 → S4[p]? = some (.lst xs.reverse) → Q (.ref p) S4) : OkR (iRev a ρ S) Q := by
  rw [x_rev]
  refine ok_bind (h.imp fun x S1 ⟨xs, e, h⟩ => ?_)
  simp only [e]
  exact w_new h
theorem cut_drop {α : Type} (xs : List α) (k : Nat) : cut xs (some (k : Int)) none = xs.drop k := by
  unfold cut
  rw [HT.sIx_nat, HT.sIx_none]
  by_cases h : k ≤ xs.length
  · rw [Nat.min_eq_left h, List.take_of_length_le (by simp)]
  · rw [Nat.min_eq_right (by omega), List.drop_length, List.drop_of_length_le (by omega)]; simp
theorem w_addL {p q : Nat} {xs ys : List Va} (h1 : S[p]? = some (.lst xs)) (h2 : S[q]? = some (.lst ys)) (hl : xs.length + ys.length ≤ 100000) (h : ∀ r S2, S.length ≤ r → Fx [] S S2 → S2[r]? = some (.lst (xs ++ ys)) → Q (.ref r) S2) : OkR (fAdd (.ref p) (.ref q) S) Q := by
  simp only [fAdd, h1, h2, hl, if_true]
  exact w_new h
theorem w_sum {p : Nat} {xs : List Int} (h1 : S[p]? = some (.lst (xs.map .int))) (h : Q (.int xs.sum) S) : OkR (fSum [.ref p] S) Q := by
  simp only [fSum, getL_ref h1, Option.bind_some, asIs_I]; exact h
theorem w_modN {z : Int} {n : Nat} (hn : 0 < n) (h : ∀ k : Nat, k < n → z % (n : Int) = k → Q (vN k) S) : OkR (fMod (.int z) (vN n) S) Q := by
  obtain ⟨k, h1, h2⟩ := emod_nat z n hn
  rw [fMod_N hn h2]; exact h k h1 h2
theorem w_modI {z j : Int} (hj : 0 < j) (h : Q (.int (z % j)) S) : OkR (fMod (.int z) (.int j) S) Q := by
  simp only [fMod, hj, if_true]; exact h
theorem w_modNL {x m : Nat} (hj : 0 < m) (h : Q (vN (x % m)) S) : OkR (fMod (vN x) (.int (m : Int)) S) Q := by
  have : (0 : Int) < m := by omega
  simp only [fMod, vN, this, if_true]
  exact h
theorem w_divI {z j : Int} (hj : 0 < j) (hj2 : j < 1073741824) (h : Q (.int (z / j)) S) : OkR (fDiv (.int z) (.int j) S) Q := by
  simp only [fDiv, hj, hj2, and_self, if_true]; exact h
theorem w_nePL {x y : Va} {d e : PyData} (hx : toP 9 S x = some d) (hy : toP 9 S y = some e) (h : Q (.bl (!PyData.eqv d e)) S) : OkR (fNe x y S) Q := by simp only [fNe, hx, hy]; exact h
theorem w_nePLN {p q : Nat} {xs ys : List Nat} (h1 : S[p]? = some (LN xs)) (h2 : S[q]? = some (LN ys)) (h : Q (.bl (!decide (xs = ys))) S) : OkR (fNe (.ref p) (.ref q) S) Q := OkR.of (fNe_LN h1 h2) h
theorem w_eqLN {p q : Nat} {xs ys : List Nat} (h1 : S[p]? = some (LN xs)) (h2 : S[q]? = some (LN ys)) (h : Q (.bl (decide (xs = ys))) S) : OkR (fEq (.ref p) (.ref q) S) Q := OkR.of (fEq_LN h1 h2) h
theorem w_eqNN {x y : Nat} (h : Q (.bl (decide (x = y))) S) : OkR (fEq (vN x) (vN y) S) Q := OkR.of fEq_NN h
theorem w_eqII {x y : Int} (h : Q (.bl (decide (x = y))) S) : OkR (fEq (.int x) (.int y) S) Q := OkR.of fEq_ii h
theorem w_neII {x y : Int} (h : Q (.bl (!decide (x = y))) S) : OkR (fNe (.int x) (.int y) S) Q := by
  refine OkR.of (a := .bl (!decide (x = y))) ?_ h
  simp only [fNe, toP, PyData.eqv]
  by_cases e : x = y <;> simp [e]
theorem w_neNN {x y : Nat} (h : Q (.bl (!decide (x = y))) S) : OkR (fNe (vN x) (vN y) S) Q := OkR.of fNe_N h
theorem w_fldO {k : Nat} {f c : Str} {fs : List (Str × Va)} {v : Va} (ha : a ρ S = .ok (.ref k) S) (h1 : S[k]? = some (.obj c fs)) (hc : c ∈ clsL) (hf : fs.lookup f = some v) (h : Q v S) : OkR (iFld a f ρ S) Q := OkR.of (fld_ok ha h1 hc hf) h
end
end IL

end
section
set_option linter.all false
set_option maxRecDepth 100000
set_option maxHeartbeats 1000000
namespace IL
open PySem L2
local macro_rules
  | `(tactic| array_get_dec) => `(tactic| first | assumption | exact Fx.get (by assumption) (by array_mem_dec) (by array_get_dec))
  | `(tactic| array_mem_dec) => `(tactic| first | exact List.not_mem_nil | exact nin1 (by infer_instance) | exact nin2 (by infer_instance) (by array_mem_dec))
  | `(tactic| infer_instance) => `(tactic| first | assumption | (apply Ne.symm; assumption) | exact ne_birth (by assumption) (by array_get_dec) | exact ne_birth' (by assumption) (by array_get_dec))
  | `(tactic| sizeOf_list_dec) => `(tactic| first | exact Fx.refl | assumption | (refine Fx.step ?_ (by assumption) ?_; (focus sizeOf_list_dec); (focus (simp only [List.mem_singleton, List.mem_cons, List.not_mem_nil, forall_eq, forall_eq_or_imp, or_false, false_or, false_implies, implies_true, and_true]; try (repeat' apply And.intro) <;> decreasing_trivial_pre_omega))))
  | `(tactic| decreasing_trivial_pre_omega) => `(tactic| first | assumption | exact Nat.le_refl _ | exact le_fx (by assumption) (by decreasing_trivial_pre_omega) | exact le_tr (by assumption) (by decreasing_trivial_pre_omega))
  | `(tactic| decreasing_trivial) => `(tactic| first | assumption | exact Fx.tks (by assumption) (by decreasing_trivial) | exact Fx.tks1 (by assumption) (by array_get_dec) (by decreasing_trivial))
  | `(tactic| decreasing_tactic) => `(tactic| repeat (first
    | with_reducible first
      | refine w_seq ?_ | refine w_asg ?_ | refine w_if ?_ | refine w_ret ?_ | refine w_expr ?_ | refine w_op ?_ | refine w_c ?_ | refine w_cons ?_ | refine w_nil ?_ | refine w_cb ?_ | refine w_call ?_ | refine w_B ?_ | refine w_asB ?_ | refine w_not ?_ | refine w_notV ?_ | refine w_and ?_ | refine w_or ?_ | refine w_andV ?_ | refine w_orV ?_ | refine w_un ?_ | refine w_ok ?_ | refine w_yes ?_ | refine w_ife ?_ | refine w_next ?_ | refine w_II ?_ | refine w_add ?_ | refine w_IINI ?_ | refine w_IIIN ?_ | refine w_IINN ?_ | refine w_addNI ?_ | refine w_addIN ?_ | refine w_addNN ?_ | refine w_neg ?_ | refine w_isB ?_ | refine w_isNB ?_ | refine w_lst ?_ | refine w_tup ?_ | refine w_run1 ?_ | refine w_run0 ?_ | refine w_sub ?_ | refine w_par ?_ | refine w_for ?_ | refine w_bind ?_ | refine w_chain ?_ | refine w_bm ?_ | refine w_sl ?_ | refine w_noPart ?_ | refine w_part ?_ | refine w_divI (by decide) (by decide) ?_ | refine w_eqNN ?_ | refine w_neNN ?_ | refine w_eqII ?_ | refine w_neII ?_ | refine w_itList ?_ | refine w_itZip ?_ | refine w_itEnum ?_ | refine w_itTup ?_ | refine w_itRng ?_
      | refine w_var (by with_unfolding_all rfl) ?_
      | refine w_iF (by with_unfolding_all rfl) ?_ | refine w_iT (by with_unfolding_all rfl) ?_ | refine w_eF (by with_unfolding_all rfl) ?_ | refine w_eT (by with_unfolding_all rfl) ?_
      | refine w_ixt0 (by with_unfolding_all array_get_dec) ?_ | refine w_ixt1 (by with_unfolding_all array_get_dec) ?_ | refine w_ix0 (by with_unfolding_all array_get_dec) ?_ | refine w_ix1 (by with_unfolding_all array_get_dec) ?_ | refine w_bm' (by with_unfolding_all array_get_dec) ?_ | refine ⟨_, _, rfl, by with_unfolding_all array_get_dec, ?_⟩ | refine ⟨_, _, rfl, ?_⟩ | refine ⟨_, rfl, ?_⟩
    | (with_reducible refine w_name ?_; dsimp only [List.set])))

theorem law_loads_w {S : Sto} {q n : Nat} {sh : List Nat} {Q : Va → Sto → Prop} (hq : S[q]? = some (LN sh)) (hx : ∀ x ∈ sh, x < n) (hn : n ≤ 1000) (h : ∀ p S', S.length ≤ p → Fx [] S S' → S'[p]? = some (LN (loadsN n sh)) → Q (.ref p) S') : OkR (i__law_loads [vN n, .ref q] S) Q := by
  rw [law_loads_ok hq hx hn]
  exact h _ _ (by omega) Fx.app get_n1
theorem GS.lt3 {n : Nat} {ts : List (Nat × Nat)} {zs : List Nat} (hg : GT n ts) (hz : GS ts zs) : ∀ x ∈ zs, x < n := fun x hx => by
  obtain ⟨k, hk⟩ := List.mem_iff_getElem?.mp hx
  exact (sec_lt hg hz.gp hk).2
theorem tasks_w {S : Sto} {v : Va} {cs : List Int} {Q : Va → Sto → Prop} (hv : getL S v = some (cs.map .int)) (hl : cs.length ≤ 63) (hb : ∀ z ∈ cs, bits z ≤ 1048576)
    (h : ∀ k p n ts vs S', Fx [] S S' → S.length ≤ p → S'[k]? = some (.tup [vN n, .ref p]) → S'[p]? = some (.lst vs) → Tks S' vs ts → GT n ts → 2 ≤ n → n ≤ 60 → ts.length = cs.length → Q (.ref k) S') : OkR (i__law_tasks [v] S) Q := by
  obtain ⟨T, k, p, n, ts, e1, e2, e3, ⟨⟨vs, e4, e5⟩, e6⟩, e7, e8, e9⟩ := tasks_ok hv hl hb
  exact OkR.of e1 (h k p n ts vs _ Fx.app e3 e2 e4 e5 e6 e7 e8 e9)
theorem sharing_w {S : Sto} {v : Va} {cs : List Int} {p n by_ : Nat} {vs : List Va} {ts : List (Nat × Nat)} {Q : Va → Sto → Prop} (hv : getL S v = some (cs.map .int)) (hl : cs.length ≤ 63) (hb : ∀ z ∈ cs, bits z ≤ 1048576) (hp : S[p]? = some (.lst vs)) (ht : Tks S vs ts) (hg : GT n ts) (htl : ts.length = cs.length) (hby : by_ ≤ 1)
    (h : ∀ k sh S', S.length ≤ k → Fx [] S S' → S'[k]? = some (LN sh) → GS ts sh → Q (.ref k) S') : OkR (i__law_sharing [v, .ref p, vN by_] S) Q := by
  obtain ⟨T, k, sh, e1, e2, e3, e4⟩ := sharing_ok hv hl hb ⟨⟨vs, hp, ht⟩, hg⟩ htl hby
  exact OkR.of e1 (h k sh _ e3 Fx.app e2 e4)
theorem passed_w {S : Sto} {n p q one other : Nat} {vs : List Va} {ts : List (Nat × Nat)} {sh : List Nat} {Q : Va → Sto → Prop} (hp : S[p]? = some (.lst vs)) (ht : Tks S vs ts) (hg : GT n ts) (hq : S[q]? = some (LN sh)) (hs : GS ts sh) (h1 : one < n) (h2 : other < n) (hne : one ≠ other) (hn : n ≤ 60) (hl : ts.length ≤ 900)
    (h : ∀ k S', S.length ≤ k → Fx [] S S' → PassR S' k n ts sh one other → Q (.ref k) S') : OkR (i_passed [vN n, .ref p, .ref q, vN one, vN other] S) Q := by
  obtain ⟨k, T, e1, e2, e3⟩ := passed_ok ⟨⟨vs, hp, ht⟩, hg⟩ hq hs h1 h2 hne hn hl
  exact OkR.of e1 (h k _ e2 Fx.app e3)
/-- the lesser one of each -/
theorem low_GS (ts : List (Nat × Nat)) : GS ts (ts.map (·.1)) := by
  refine Paired.of_get (by simp) fun k t x h1 h2 => ?_
  obtain ⟨t', h3, rfl⟩ := map_get h2
  rw [h1] at h3; cases h3
  exact .inl rfl
theorem w_lows {ρ : Env} {S : Sto} {p i j : Nat} {vs : List Va} {ts : List (Nat × Nat)} {Q : Va → Sto → Prop} (hi : ρ[i]? = some (some (.ref p))) (hij : i ≠ j) (hj : j < ρ.length) (hp : S[p]? = some (.lst vs)) (ht : Tks S vs ts) (hl : ts.length ≤ 100000)
    (h : ∀ k S', S.length ≤ k → Fx [] S S' → S'[k]? = some (LN (ts.map (·.1))) → Q (.ref k) S') : OkR (iLc (itList (iVar i)) (tgName j) iYes (iOp fIx (iVar j) (iC (.int 0))) [j] ρ S) Q := by
  have hv := Paired.len ht
  refine w_lc ?_
  refine w_itList (w_var hi ⟨p, vs, rfl, hp, ?_⟩)
  refine ⟨by rw [List.length_map]; omega, ts.map (fun t => some (vN t.1)), fun S' x => sameFx (ns := []) hp (x.get0 hp), Paired.of_get (by simp; omega) fun k it o e1 e2 => ?_, ?_⟩
  · obtain ⟨v, z1, rfl⟩ := map_one_get e1
    obtain ⟨t, z2, rfl⟩ := map_get e2
    obtain ⟨t', z3, q, rfl, z4⟩ := Paired.get ht z1
    rw [z2] at z3; cases z3
    refine fun S' x => ⟨sameFx (ns := []) hp (x.get0 hp), w_name (w_yes ⟨rfl, fun _ => ?_, fun z => by cases z⟩)⟩
    refine w_op (w_var (v := .ref q) (by simp [wipeE, List.getElem?_set_self, hj]) (w_c (w_ixt0 (x.get0 z4) ⟨rfl, x⟩)))
  · intro k S' b x m
    rw [fmap_some] at m
    exact h k S' b x (by rw [m]; unfold LN; rw [List.map_map]; rfl)
end IL

end
section
set_option linter.all false
set_option maxRecDepth 100000
set_option maxHeartbeats 1000000
namespace IL
open PySem L2
section
variable {S : Sto} {n p q e o hd h0 h1 one other : Nat} {vs : List Va} {ts : List (Nat × Nat)} {sh : List Nat} {ov : List Va} {os : List (List Nat × Nat × Nat)}
/-- the names while a turn runs -/
def rtE (n p q e o hd : Nat) (y6 y7 y8 y9 y10 y11 y12 y13 y14 y15 : Option Va) : Env := [some (vN n), some (.ref p), some (.ref q), some (.ref e), some (.ref o), some (.ref hd), y6, y7, y8, y9, y10, y11, y12, y13, y14, y15]
theorem step0 {y6 y7 y8 y9 y10 y11 y12 y13 y14 y15 : Option Va} (r : RS S n p q e o hd h0 h1 one other vs ts sh ov os) (gt : GT n ts) (gs : GS ts sh) (l1 : one < n) (l2 : other < n) (hne : one ≠ other) (hn : n ≤ 60) (hl : ts.length ≤ 900) :
    ∃ k T isC xs, rt0 (rtE n p q e o hd y6 y7 y8 y9 y10 y11 y12 y13 y14 y15) S = .nx (rtE n p q e o hd y6 (some (.ref k)) y8 y9 y10 y11 y12 y13 y14 y15) (S ++ T) ∧ S.length ≤ k ∧ Got (S ++ T) k n ts sh one other isC xs := by
  obtain ⟨k, T, e1, e2, e3⟩ := passed_ok (p := h0) (q := h1) (one := one) (other := other) ⟨⟨vs, r.h0, r.ht⟩, gt⟩ r.h1 gs l1 l2 hne hn hl
  obtain ⟨isC, xs, g⟩ := got_of (Paired.len gs).symm hn e3
  refine ⟨k, T, isC, xs, ?_, e2, g⟩
  have c1 : fIx (.ref hd) (.int 0) S = .ok (.ref h0) S := fIx_lst (k := 0) r.hd rfl
  have c2 : fIx (.ref hd) (.int 1) S = .ok (.ref h1) S := fIx_lst (k := 1) r.hd rfl
  have c3 : fIx (.ref e) (.int 0) S = .ok (vN one) S := fIx_tup (k := 0) r.he rfl
  have c4 : fIx (.ref e) (.int 1) S = .ok (vN other) S := fIx_tup (k := 1) r.he rfl
  simp only [rt0, rtE, x_asg, x_call, x_cons, x_nil, x_op, x_c, x_var, List.getElem?_cons_succ, List.getElem?_cons_zero, R.bind_ok, c1, c2, c3, c4, e1, R.toO_ok, x_tgName, List.set]
variable {y6 y7 y8 y9 y10 y11 y12 y13 y14 y15 : Option Va} {k : Nat} {isC : Bool} {xs : List Int}
theorem step12 (g : Ans isC S k xs) : rt1 (rtE n p q e o hd y6 (some (.ref k)) y8 y9 y10 y11 y12 y13 y14 y15) S = .nx (rtE n p q e o hd y6 (some (.ref k)) (some (.ref S.length)) y9 y10 y11 y12 y13 y14 y15) (S ++ [.lst [.bl isC, .bl (!isC)]]) ∧
    rt2 (rtE n p q e o hd y6 (some (.ref k)) y8 y9 y10 y11 y12 y13 y14 y15) S = .nx (rtE n p q e o hd y6 (some (.ref k)) y8 (some (.ref S.length)) y10 y11 y12 y13 y14 y15) (S ++ [.lst [.bl false, .bl false, .bl false]]) := by
  obtain ⟨i1, i2, i3, i4, i5, i6⟩ := isiA g
  constructor
  · simp only [rt1, rtE, x_asg, x_lst, x_cons, x_nil, x_cb, x_c, x_var, List.getElem?_cons_succ, List.getElem?_cons_zero, R.bind_ok, i1, i2, R.toO_ok, x_tgName, List.set]
  · simp only [rt2, rtE, x_asg, x_lst, x_cons, x_nil, x_cb, x_c, x_var, List.getElem?_cons_succ, List.getElem?_cons_zero, R.bind_ok, i3, i4, i5, R.toO_ok, x_tgName, List.set]
theorem toP_hand {S : Sto} {a b c : Nat} {vs : List Va} {ts : List (Nat × Nat)} {sh : List Nat} (h1 : S[a]? = some (.lst vs)) (h2 : Tks S vs ts) (h3 : S[b]? = some (LN sh)) (h : S[c]? = some (.lst [.ref a, .ref b])) : toP 9 S (.ref c) = some (.list [pTs ts, pL sh]) := by
  have e1 : toP 8 S (.ref a) = some (pTs ts) := toP_Tks (k := 6) h1 h2
  have e2 : toP 8 S (.ref b) = some (pL sh) := toP_LN h3
  exact toP_lst (k := 8) h (by rw [List.map_cons, List.map_cons, e1, e2]; rfl)
theorem step3 {a8 a9 : Nat} (r : RS S n p q e o hd h0 h1 one other vs ts sh ov os) (g : Ans isC S k xs) (h8 : S[a8]? = some (.lst [.bl isC, .bl (!isC)])) (h9 : S[a9]? = some (.lst [.bl false, .bl false, .bl false])) :
    rt3 (rtE n p q e o hd y6 (some (.ref k)) (some (.ref a8)) (some (.ref a9)) y10 y11 y12 y13 y14 y15) S = .nx (rtE n p q e o hd y6 (some (.ref k)) (some (.ref a8)) (some (.ref a9)) y10 y11 y12 y13 y14 y15) (S ++ [.lst [.ref p, .ref q]]) := by
  obtain ⟨i1, i2, i3, i4, i5, i6⟩ := isiA g
  have c1 := cntA h8
  have c2 : fNe (.int 1) (.int 1) S = .ok (.bl false) S := rfl
  have c3 : fAny [.ref a9] S = .ok (.bl false) S := by simp only [fAny, getL_ref h9]; rfl
  have x : Px S (S ++ [Ob.lst [.ref p, .ref q]]) := ⟨_, rfl⟩
  have r' := r.px x
  have c4 : fNe (.ref hd) (.ref S.length) (S ++ [.lst [.ref p, .ref q]]) = .ok (.bl false) (S ++ [.lst [.ref p, .ref q]]) := by
    refine fNe_of (toP_hand r'.h0 r'.ht r'.h1 r'.hd) (toP_hand r'.hp r'.ht r'.hq get_n0) ?_
    rw [PyData.eqv]
    refine eqvAll_self fun d hd => ?_
    simp at hd
    rcases hd with rfl | rfl
    · exact pTs_self ts
    · exact pL_self sh
  simp only [rt3, rtE, x_sif, x_or, x_not, x_B, x_cb, x_cons, x_nil, x_c, x_var, List.getElem?_cons_succ, List.getElem?_cons_zero, R.bind_ok, i6, x_asB, Bool.not_true, Bool.false_eq_true, if_false, x_op, x_bm, getL_ref h8, c1, c2, c3, x_lst, c4, R.toO_ok, x_next]
end
end IL

end
section
set_option linter.all false
set_option maxRecDepth 100000
set_option maxHeartbeats 1000000
namespace IL
open PySem L2
local macro_rules
  | `(tactic| array_get_dec) => `(tactic| first | assumption | exact Fx.get (by assumption) (by array_mem_dec) (by array_get_dec))
  | `(tactic| array_mem_dec) => `(tactic| first | exact List.not_mem_nil | exact nin1 (by infer_instance) | exact nin2 (by infer_instance) (by array_mem_dec))
  | `(tactic| infer_instance) => `(tactic| first | assumption | (apply Ne.symm; assumption) | exact ne_birth (by assumption) (by array_get_dec) | exact ne_birth' (by assumption) (by array_get_dec))
  | `(tactic| sizeOf_list_dec) => `(tactic| first | exact Fx.refl | assumption | (refine Fx.step ?_ (by assumption) ?_; (focus sizeOf_list_dec); (focus (simp only [List.mem_singleton, List.mem_cons, List.not_mem_nil, forall_eq, forall_eq_or_imp, or_false, false_or, false_implies, implies_true, and_true]; try (repeat' apply And.intro) <;> decreasing_trivial_pre_omega))))
  | `(tactic| decreasing_trivial_pre_omega) => `(tactic| first | assumption | exact Nat.le_refl _ | exact le_fx (by assumption) (by decreasing_trivial_pre_omega) | exact le_tr (by assumption) (by decreasing_trivial_pre_omega))
  | `(tactic| decreasing_trivial) => `(tactic| first | assumption | exact Fx.tks (by assumption) (by decreasing_trivial) | exact Fx.tks1 (by assumption) (by array_get_dec) (by decreasing_trivial))
  | `(tactic| decreasing_tactic) => `(tactic| repeat (first
    | with_reducible first
      | refine w_seq ?_ | refine w_asg ?_ | refine w_if ?_ | refine w_ret ?_ | refine w_expr ?_ | refine w_op ?_ | refine w_c ?_ | refine w_cons ?_ | refine w_nil ?_ | refine w_cb ?_ | refine w_call ?_ | refine w_B ?_ | refine w_asB ?_ | refine w_not ?_ | refine w_notV ?_ | refine w_and ?_ | refine w_or ?_ | refine w_andV ?_ | refine w_orV ?_ | refine w_un ?_ | refine w_ok ?_ | refine w_yes ?_ | refine w_ife ?_ | refine w_next ?_ | refine w_II ?_ | refine w_add ?_ | refine w_IINI ?_ | refine w_IIIN ?_ | refine w_IINN ?_ | refine w_addNI ?_ | refine w_addIN ?_ | refine w_addNN ?_ | refine w_neg ?_ | refine w_isB ?_ | refine w_isNB ?_ | refine w_lst ?_ | refine w_tup ?_ | refine w_run1 ?_ | refine w_run0 ?_ | refine w_sub ?_ | refine w_par ?_ | refine w_for ?_ | refine w_bind ?_ | refine w_chain ?_ | refine w_bm ?_ | refine w_sl ?_ | refine w_noPart ?_ | refine w_part ?_ | refine w_divI (by decide) (by decide) ?_ | refine w_eqNN ?_ | refine w_neNN ?_ | refine w_eqII ?_ | refine w_neII ?_ | refine w_itList ?_ | refine w_itZip ?_ | refine w_itEnum ?_ | refine w_itTup ?_ | refine w_itRng ?_
      | refine w_var (by with_unfolding_all rfl) ?_
      | refine w_iF (by with_unfolding_all rfl) ?_ | refine w_iT (by with_unfolding_all rfl) ?_ | refine w_eF (by with_unfolding_all rfl) ?_ | refine w_eT (by with_unfolding_all rfl) ?_
      | refine w_ixt0 (by with_unfolding_all array_get_dec) ?_ | refine w_ixt1 (by with_unfolding_all array_get_dec) ?_ | refine w_ix0 (by with_unfolding_all array_get_dec) ?_ | refine w_ix1 (by with_unfolding_all array_get_dec) ?_ | refine w_bm' (by with_unfolding_all array_get_dec) ?_ | refine ⟨_, _, rfl, by with_unfolding_all array_get_dec, ?_⟩ | refine ⟨_, _, rfl, ?_⟩ | refine ⟨_, rfl, ?_⟩
    | (with_reducible refine w_name ?_; dsimp only [List.set])))

theorem RS.fx {S S' : Sto} {n p q e o hd h0 h1 one other : Nat} {vs : List Va} {ts : List (Nat × Nat)} {sh : List Nat} {ov : List Va} {os : List (List Nat × Nat × Nat)} (x : Fx [] S S') (h : RS S n p q e o hd h0 h1 one other vs ts sh ov os) : RS S' n p q e o hd h0 h1 one other vs ts sh ov os := h.px x.ex
theorem Ans.fx {isC : Bool} {S S' : Sto} {k : Nat} {xs : List Int} (x : Fx [] S S') (h : Ans isC S k xs) : Ans isC S' k xs := h.px x.ex
theorem fld_any {isC : Bool} {S : Sto} {k : Nat} {xs : List Int} {ρ : Env} {Q : Va → Sto → Prop} (h : Ans isC S k xs) (h7 : ρ[7]? = some (some (.ref k))) (hq : Q (.ref (k + 1)) S) : OkR (if isC = true then iFld (iVar 7) "tasks" ρ S else iFld (iVar 7) "some" ρ S) Q := by
  obtain ⟨h1, h2⟩ := h
  cases isC with
  | true =>
    have h1' : S[k]? = some (.obj "Chain" [("tasks", .ref (k + 1))]) := h1
    exact OkR.of (fld_ok (by rw [x_var, h7]) h1' (by decide +kernel) lk1) hq
  | false =>
    have h1' : S[k]? = some (.obj "Side" [("some", .ref (k + 1))]) := h1
    exact OkR.of (fld_ok (by rw [x_var, h7]) h1' (by decide +kernel) lk1) hq
theorem turn3 {S : Sto} {n p q e o hd h0 h1 one other : Nat} {vs : List Va} {ts : List (Nat × Nat)} {sh : List Nat} {ov : List Va} {os : List (List Nat × Nat × Nat)} {y6 y7 y8 y9 y10 y11 y12 y13 y14 y15 : Option Va}
    (r : RS S n p q e o hd h0 h1 one other vs ts sh ov os) (gt : GT n ts) (gs : GS ts sh) (l1 : one < n) (l2 : other < n) (hne : one ≠ other) (hn : n ≤ 60) (hl : ts.length ≤ 900) :
    OkO (rtB (rtE n p q e o hd y6 y7 y8 y9 y10 y11 y12 y13 y14 y15) S) (fun ρ' S' => (∃ y6 y7 y8 y9 y10 y11 y12 y13 y14 y15, ρ' = rtE n p q e o hd y6 y7 y8 y9 y10 y11 y12 y13 y14 y15) ∧ Fx [] S S') (fun _ _ => False) := by
  obtain ⟨r1, r2, r3, r4, r5, r6, r7, r8, r9⟩ := r
  have r : RS S n p q e o hd h0 h1 one other vs ts sh ov os := ⟨r1, r2, r3, r4, r5, r6, r7, r8, r9⟩
  unfold rtB rt0 rt1 rt2 rt3 rt4 rt5 rt6 rtE
  decreasing_tactic
  obtain ⟨k, T, e1, e2, e3⟩ := passed_ok (p := h0) (q := h1) (one := one) (other := other) ⟨⟨vs, r8, r2⟩, gt⟩ r9 gs l1 l2 hne hn hl
  obtain ⟨isC, xs, g⟩ := got_of (Paired.len gs).symm hn e3
  refine OkR.app e1 fun S1 x1 q1 => ?_
  rw [q1] at g
  clear q1 e1 e3
  decreasing_tactic
  have a1 := g.an
  obtain ⟨i1, i2, i3, i4, i5, i6⟩ := isiA a1
  refine OkR.of i1 ?_; decreasing_tactic
  refine OkR.of i2 ?_; decreasing_tactic
  intro k8 S2 b2 x2 m8
  decreasing_tactic
  have a2 := a1.fx x2
  obtain ⟨_, _, i3, i4, i5, i6⟩ := isiA a2
  refine OkR.of i3 ?_; decreasing_tactic; refine OkR.of i4 ?_; decreasing_tactic; refine OkR.of i5 ?_; decreasing_tactic
  intro k9 S3 b3 x3 m9
  decreasing_tactic
  have a3 := a2.fx x3
  refine OkR.of (isiA a3).2.2.2.2.2 ?_; decreasing_tactic
  refine OkR.of (cntA (by array_get_dec)) ?_; decreasing_tactic
  refine OkR.of (show fAny [.ref k9] S3 = .ok (.bl false) S3 by simp only [fAny, getL_ref m9]; rfl) ?_; decreasing_tactic
  intro k10 S4 b4 x4 m10
  have r' := r.fx (by sizeOf_list_dec : Fx [] S S4)
  have c4 : fNe (.ref hd) (.ref k10) S4 = .ok (.bl false) S4 := by
    refine fNe_of (toP_hand r'.h0 r'.ht r'.h1 r'.hd) (toP_hand r'.hp r'.ht r'.hq m10) ?_
    rw [PyData.eqv]
    refine eqvAll_self fun d hd => ?_
    simp at hd
    rcases hd with rfl | rfl
    · exact pTs_self ts
    · exact pL_self sh
  refine OkR.of c4 ?_; decreasing_tactic
  have a4 := a3.fx x4
  refine fld_any a4 rfl ?_
  decreasing_tactic
  refine OkR.app (T := [.lst (xs.map fun _ => .bl true)]) (wholes_ok a4.2 (by have := g.ln; omega)) fun S5 x5 _ => ?_
  decreasing_tactic
  obtain ⟨T6, ks, e6, l6⟩ := leads_ok (S := S5) (p := p) (q := q) (e := e) (by array_get_dec) (by decreasing_trivial) gt (by array_get_dec) gs (by array_get_dec) l1 hn
  have hld := g.ld ks l6.1 l6.2.1 l6.2.2
  rw [hld] at e6
  refine OkR.app e6 fun S6 x6 _ => ?_
  refine OkR.of (a := Va.bl false) (by rw [fNe_B, decide_eq_true rfl]; rfl) ?_; decreasing_tactic
  have a6 := (a4.fx x5).fx x6
  refine OkR.grow (due_any a6 (by array_get_dec) (by array_get_dec) (by decreasing_trivial) (by array_get_dec) gs (by have := g.ln; omega) (by have := Paired.len gs; omega)) fun S7 x7 => ?_
  rw [g.ok]
  decreasing_tactic
  have n7 := a6.fx x7
  have ag : ∀ {S'}, Fx [] S S' → ∀ {y6 y8 y9 y10 y11 y12 y13 y14 y15 : Option Va}, (iCons (iVar 0) (iCons (iVar 1) (iCons (iVar 2) (iCons (iOp fIx (iVar 3) (iC (.int 0))) (iCons (iOp fIx (iVar 3) (iC (.int 1))) iNil))))) [some (vN n), some (.ref p), some (.ref q), some (.ref e), some (.ref o), some (.ref hd), y6, some (.ref k), y8, y9, y10, y11, y12, y13, y14, y15] S' = .ok [vN n, .ref p, .ref q, vN one, vN other] S' := fun x => OkR.eq (by decreasing_tactic; exact ⟨rfl, rfl⟩)
  refine OkR.grow (shows_any n7 rfl (ag (by sizeOf_list_dec)) (by array_get_dec) (by decreasing_trivial) (by array_get_dec) gs (by have := g.ln; omega) (by have := Paired.len gs; omega)) fun S8 x8 => ?_
  rw [g.ok]
  decreasing_tactic
  unfold rt7
  decreasing_tactic
  refine w_fL (ob := .lst ov) (fun j ρ S' => (∃ y10 y11 y12, ρ = [some (vN n), some (.ref p), some (.ref q), some (.ref e), some (.ref o), some (.ref hd), y6, some (.ref k), some (.ref k8), some (.ref k9), y10, y11, y12, y13, y14, y15]) ∧ Fx [] S8 S') (by array_get_dec) ⟨⟨_, _, _, rfl⟩, Fx.refl⟩ ?_ ?_
  · rintro j v _ S9 ej ⟨⟨y10, y11, y12, rfl⟩, x9⟩
    obtain ⟨⟨an, near, far⟩, _, w, a, rfl, o1, o2, o3⟩ := Paired.get r6 ej
    refine ⟨by array_get_dec, w_tgt1 (by array_get_dec) rfl ?_⟩
    decreasing_tactic
    have n9 := (n7.fx x8).fx x9
    refine OkR.grow (shows_any (near := near) (far := far) (q := a) n9 rfl rfl (by array_get_dec) (by decreasing_trivial) (by array_get_dec) o3 (by have := g.ln; omega) (by have := Paired.len o3; omega)) fun S10 x10 => ?_
    decreasing_tactic
    intro k14 S11 b11 x11 m14
    decreasing_tactic
    refine OkR.grow (due_any ((n9.fx x10).fx x11) m14 (by array_get_dec) (by decreasing_trivial) (by array_get_dec) o3 (by have := g.ln; omega) (by have := Paired.len o3; omega)) fun S12 x12 => ?_
    refine OkR.of (a := Va.bl false) (by rw [fNe_B, decide_eq_true rfl]; rfl) ?_
    decreasing_tactic
    exact ⟨⟨_, _, _, rfl⟩, by sizeOf_list_dec⟩
  rintro _ S9 ⟨⟨y10, y11, y12, rfl⟩, x9⟩
  refine ⟨by array_get_dec, ?_⟩
  have n9 := (n7.fx x8).fx x9
  unfold rt8 rt9
  decreasing_tactic
  have hk1 : S.length ≤ k + 1 := by omega
  cases isC with
  | false =>
    have q1 : S9[k]? = some (.obj "Side" [("some", .ref (k + 1))]) := n9.1
    have q2 := n9.2
    decreasing_tactic
    refine OkR.of (fld_ok (by rfl) (by array_get_dec) (by decide +kernel) lk1) ?_
    decreasing_tactic
    refine w_append q2 (by rw [List.length_map]; have := g.ln; omega) fun S10 x10 m10 => ?_
    decreasing_tactic
    have n10 : Ans false S10 k (xs ++ [-1]) := ⟨x10.get (nin1 (by omega)) q1, by rw [m10, List.map_append]; rfl⟩
    refine OkR.grow (shows_any n10 rfl (ag (by sizeOf_list_dec)) (by array_get_dec) (by decreasing_trivial) (by array_get_dec) gs (by rw [List.length_append]; have := g.ln; simp; omega) (by have := Paired.len gs; omega)) fun S11 x11 => ?_
    rw [g.bad]
    decreasing_tactic
    exact ⟨⟨_, _, _, _, _, _, _, _, _, _, rfl⟩, by sizeOf_list_dec⟩
  | true =>
    have q1 : S9[k]? = some (.obj "Chain" [("tasks", .ref (k + 1))]) := n9.1
    obtain ⟨ch, rfl, c1, c2, c3⟩ := g.ch rfl
    have q2 : S9[k + 1]? = some (LN ch) := by rw [n9.2]; unfold LN; rw [map_vN]
    have hgp := gs.gp
    decreasing_tactic
    refine w_listL (by array_get_dec) fun k13 S10 b10 x10 m13 => ?_
    decreasing_tactic
    refine OkR.of (fld_ok (by rfl) (by array_get_dec) (by decide +kernel) lk1) ?_
    decreasing_tactic
    have q3 : S10[k + 1]? = some (LN ch) := by array_get_dec
    have q4 : S10[p]? = some (.lst vs) := by array_get_dec
    obtain ⟨ρ', S11, f1, f2, f3, f4⟩ := pass_loop (vt := 1) (va := 14) (vf := 13) (ρ := [some (vN n), some (.ref p), some (.ref q), some (.ref e), some (.ref o), some (.ref hd), y6, some (.ref k), some (.ref k8), some (.ref k9), y10, y11, y12, some (.ref k13), y14, y15]) (f := i__law_second) sec2_law q4 (by decreasing_trivial) hgp m13 q3 (by infer_instance) (by infer_instance) (okW_lt ch one c1) (okW_nd c1 c3) rfl rfl (by decide) (by decide) (by simp)
    obtain ⟨z14, rfl⟩ := env_set f2 f3 (by simp)
    have x11 : Fx [k13] S10 S11 := by rw [f4]; exact Fx.set
    have m11 : S11[k13]? = some (LN (setAllN (fun t => sec ts t (sh.getD t 0)) ch sh)) := by rw [f4]; exact List.getElem?_set_self (List.getElem?_eq_some_iff.mp m13).1
    refine OkO.of f1 ?_
    dsimp only [List.set]
    decreasing_tactic
    refine law_loads_w (by array_get_dec : S11[q]? = some (LN sh)) (gs.lt3 gt) (by omega) fun k15 S12 b12 x12 m15 => ?_
    decreasing_tactic
    refine w_ixLN (by array_get_dec) (loadsN_get l1) ?_
    decreasing_tactic
    refine w_setL (k := one) (by array_get_dec) (by rw [List.length_map, loadsN_length]; exact l1) fun S13 x13 m13' => ?_
    decreasing_tactic
    refine w_ixLv (k := other) m13' (by rw [List.getElem?_set_ne hne]; exact vN_get (loadsN_get l2)) ?_
    decreasing_tactic
    refine w_setL (k := other) (by array_get_dec) (by rw [List.length_set, List.length_map, loadsN_length]; exact l2) fun S14 x14 m14' => ?_
    decreasing_tactic
    obtain ⟨af, haf⟩ : ∃ af, af = setAllN (fun t => sec ts t (sh.getD t 0)) ch sh := ⟨_, rfl⟩
    have cnt : ∀ z, af.count z + [one].count z = sh.count z + [other].count z := fun z => by have := passed_count c1 c3 z; rw [c2] at this; rw [haf]; exact this
    rw [← haf] at m11
    have haf2 : ∀ x ∈ af, x < n := fun x hx => by
      obtain ⟨i, hi⟩ := List.mem_iff_getElem?.mp hx
      have hil := (List.getElem?_eq_some_iff.mp hi).1
      rw [haf, setAllN_length] at hil
      rw [haf, setAllN_get _ _ _ hil] at hi
      obtain ⟨y, hy⟩ : ∃ y, sh[i]? = some y := ⟨_, List.getElem?_eq_getElem hil⟩
      have := sec_lt gt hgp hy
      split at hi
      · cases hi; simp only [List.getD, hy, Option.getD_some]; exact this.1
      · rw [hy] at hi; cases hi; exact this.2
    have lst : ((((loadsN n sh).map vN).set one (.int ((sh.count one : Nat) - 1))).set other (.int ((sh.count other : Nat) + 1))) = (loadsN n af).map vN := by
      apply List.ext_getElem?
      intro i
      by_cases hi : i < n
      · have cz := cnt i
        rw [vN_get (loadsN_get hi)]
        by_cases e2 : i = other
        · subst e2
          rw [List.getElem?_set_self (by rw [List.length_set, List.length_map, loadsN_length]; exact hi)]
          have z1 : List.count i [one] = 0 := by rw [List.count_eq_zero]; simp; omega
          have z2 : List.count i [i] = 1 := by simp
          rw [z1, z2] at cz
          simp [vN]; omega
        · rw [List.getElem?_set_ne (Ne.symm e2)]
          by_cases e1 : i = one
          · subst e1
            rw [List.getElem?_set_self (by rw [List.length_map, loadsN_length]; exact hi)]
            have z1 : List.count i [other] = 0 := by rw [List.count_eq_zero]; simp; omega
            have z2 : List.count i [i] = 1 := by simp
            rw [z1, z2] at cz
            simp [vN]; omega
          · rw [List.getElem?_set_ne (Ne.symm e1), vN_get (loadsN_get hi)]
            have z1 : List.count i [other] = 0 := by rw [List.count_eq_zero]; simp; omega
            have z2 : List.count i [one] = 0 := by rw [List.count_eq_zero]; simp; omega
            rw [z1, z2] at cz
            rw [show af.count i = sh.count i by omega]
      · rw [List.getElem?_eq_none (by simp [loadsN_length]; omega), List.getElem?_eq_none (by simp [loadsN_length]; omega)]
    rw [lst] at m14'
    refine law_loads_w (by array_get_dec : S14[k13]? = some (LN af)) haf2 (by omega) fun k16 S15 b15 x15 m16 => ?_
    decreasing_tactic
    refine OkR.of (a := Va.bl false) (by rw [fNe_LN m16 (show S15[k15]? = some (LN (loadsN n af)) by array_get_dec), decide_eq_true rfl]; rfl) ?_
    decreasing_tactic
    refine OkR.of (fld_ok (by rfl) (by array_get_dec) (by decide +kernel) lk1) ?_
    decreasing_tactic
    have q5 : S15[k + 1]? = some (LN ch) := by array_get_dec
    refine w_append q5 (by rw [List.length_map]; have := g.ln; simp at this; omega) fun S16 x16 m17 => ?_
    decreasing_tactic
    have n10 : Ans true S16 k (ch.map (fun (x : Nat) => (x : Int)) ++ [-1]) := ⟨x16.get (nin1 (by omega)) (show S15[k]? = some (.obj "Chain" [("tasks", .ref (k + 1))]) by array_get_dec), by rw [m17, List.map_append, map_vN]; rfl⟩
    refine OkR.grow (shows_any n10 rfl (ag (by sizeOf_list_dec)) (by array_get_dec) (by decreasing_trivial) (by array_get_dec) gs (by rw [List.length_append]; have := g.ln; simp at this ⊢; omega) (by have := Paired.len gs; omega)) fun S17 x17 => ?_
    rw [g.bad]
    decreasing_tactic
    exact ⟨⟨_, _, _, _, _, _, _, _, _, _, rfl⟩, by sizeOf_list_dec⟩
end IL

end
section
set_option linter.all false
set_option maxRecDepth 100000
set_option maxHeartbeats 1000000
namespace IL
open PySem L2
local macro_rules
  | `(tactic| array_get_dec) => `(tactic| first | assumption | exact Fx.get (by assumption) (by array_mem_dec) (by array_get_dec))
  | `(tactic| array_mem_dec) => `(tactic| first | exact List.not_mem_nil | exact nin1 (by infer_instance) | exact nin2 (by infer_instance) (by array_mem_dec))
  | `(tactic| infer_instance) => `(tactic| first | assumption | (apply Ne.symm; assumption) | exact ne_birth (by assumption) (by array_get_dec) | exact ne_birth' (by assumption) (by array_get_dec))
  | `(tactic| sizeOf_list_dec) => `(tactic| first | exact Fx.refl | assumption | (refine Fx.step ?_ (by assumption) ?_; (focus sizeOf_list_dec); (focus (simp only [List.mem_singleton, List.mem_cons, List.not_mem_nil, forall_eq, forall_eq_or_imp, or_false, false_or, false_implies, implies_true, and_true]; try (repeat' apply And.intro) <;> decreasing_trivial_pre_omega))))
  | `(tactic| decreasing_trivial_pre_omega) => `(tactic| first | assumption | exact Nat.le_refl _ | exact le_fx (by assumption) (by decreasing_trivial_pre_omega) | exact le_tr (by assumption) (by decreasing_trivial_pre_omega))
  | `(tactic| decreasing_trivial) => `(tactic| first | assumption | exact Fx.tks (by assumption) (by decreasing_trivial) | exact Fx.tks1 (by assumption) (by array_get_dec) (by decreasing_trivial))
  | `(tactic| decreasing_tactic) => `(tactic| repeat (first
    | with_reducible first
      | refine w_seq ?_ | refine w_asg ?_ | refine w_if ?_ | refine w_ret ?_ | refine w_expr ?_ | refine w_op ?_ | refine w_c ?_ | refine w_cons ?_ | refine w_nil ?_ | refine w_cb ?_ | refine w_call ?_ | refine w_B ?_ | refine w_asB ?_ | refine w_not ?_ | refine w_notV ?_ | refine w_and ?_ | refine w_or ?_ | refine w_andV ?_ | refine w_orV ?_ | refine w_un ?_ | refine w_ok ?_ | refine w_yes ?_ | refine w_ife ?_ | refine w_next ?_ | refine w_II ?_ | refine w_add ?_ | refine w_IINI ?_ | refine w_IIIN ?_ | refine w_IINN ?_ | refine w_addNI ?_ | refine w_addIN ?_ | refine w_addNN ?_ | refine w_neg ?_ | refine w_isB ?_ | refine w_isNB ?_ | refine w_lst ?_ | refine w_tup ?_ | refine w_run1 ?_ | refine w_run0 ?_ | refine w_sub ?_ | refine w_par ?_ | refine w_for ?_ | refine w_bind ?_ | refine w_chain ?_ | refine w_bm ?_ | refine w_sl ?_ | refine w_noPart ?_ | refine w_part ?_ | refine w_divI (by decide) (by decide) ?_ | refine w_eqNN ?_ | refine w_neNN ?_ | refine w_eqII ?_ | refine w_neII ?_ | refine w_itList ?_ | refine w_itZip ?_ | refine w_itEnum ?_ | refine w_itTup ?_ | refine w_itRng ?_
      | refine w_var (by with_unfolding_all rfl) ?_
      | refine w_iF (by with_unfolding_all rfl) ?_ | refine w_iT (by with_unfolding_all rfl) ?_ | refine w_eF (by with_unfolding_all rfl) ?_ | refine w_eT (by with_unfolding_all rfl) ?_
      | refine w_ixt0 (by with_unfolding_all array_get_dec) ?_ | refine w_ixt1 (by with_unfolding_all array_get_dec) ?_ | refine w_ix0 (by with_unfolding_all array_get_dec) ?_ | refine w_ix1 (by with_unfolding_all array_get_dec) ?_ | refine w_bm' (by with_unfolding_all array_get_dec) ?_ | refine ⟨_, _, rfl, by with_unfolding_all array_get_dec, ?_⟩ | refine ⟨_, _, rfl, ?_⟩ | refine ⟨_, rfl, ?_⟩
    | (with_reducible refine w_name ?_; dsimp only [List.set])))

theorem right_w3 {S : Sto} {n p q e o one other : Nat} {vs : List Va} {ts : List (Nat × Nat)} {sh : List Nat} {ov : List Va} {os : List (List Nat × Nat × Nat)}
    (hp : S[p]? = some (.lst vs)) (ht : Tks S vs ts) (hq : S[q]? = some (LN sh)) (he : S[e]? = some (.tup [vN one, vN other])) (ho : S[o]? = some (.lst ov)) (hos : Paired (Oth S ts n) ov os) (gt : GT n ts) (gs : GS ts sh) (l1 : one < n) (l2 : other < n) (hne : one ≠ other) (hn : n ≤ 60) (hl : ts.length ≤ 900) :
    OkR (i__law_right [vN n, .ref p, .ref q, .ref e, .ref o] S) fun v S' => v = .bl true ∧ Fx [] S S' := by
  refine w_mk right_eq3 rfl ?_
  dsimp only [List.map, List.length, List.replicate, List.cons_append, List.nil_append]
  decreasing_tactic
  refine w_listL hp fun h0 S1 b1 x1 m1 => ?_
  decreasing_tactic
  refine w_listL (by array_get_dec) fun h1 S2 b2 x2 m2 => ?_
  decreasing_tactic
  intro hd S3 b3 x3 m3
  decreasing_tactic
  refine ⟨by decide, by decide, ?_⟩
  refine w_fR (m := 2) (fun j ρ S' => (∃ y6 y7 y8 y9 y10 y11 y12 y13 y14 y15, ρ = rtE n p q e o hd y6 y7 y8 y9 y10 y11 y12 y13 y14 y15) ∧ Fx [] S3 S') ⟨⟨_, _, _, _, _, _, _, _, _, _, rfl⟩, Fx.refl⟩ ?_ ?_
  · rintro j _ S4 hj ⟨⟨y6, y7, y8, y9, y10, y11, y12, y13, y14, y15, rfl⟩, x4⟩
    unfold rtE
    decreasing_tactic
    have r : RS S4 n p q e o hd h0 h1 one other vs ts sh ov os := ⟨by array_get_dec, by decreasing_trivial, by array_get_dec, by array_get_dec, by array_get_dec, Paired.imp (fun _ _ ⟨w, a, e1, e2, e3, e4⟩ => ⟨w, a, e1, by array_get_dec, by array_get_dec, e4⟩) hos, by array_get_dec, by array_get_dec, by array_get_dec⟩
    exact (turn3 r gt gs l1 l2 hne hn hl).imp (fun ρ S ⟨h1, h2⟩ => ⟨h1, by sizeOf_list_dec⟩) fun _ _ h => h.elim
  · rintro _ S4 ⟨⟨y6, y7, y8, y9, y10, y11, y12, y13, y14, y15, rfl⟩, x4⟩
    decreasing_tactic
    exact ⟨rfl, by sizeOf_list_dec⟩
end IL

end
section
set_option linter.all false
set_option maxRecDepth 100000
set_option maxHeartbeats 1000000
namespace IL
open PySem L2
local macro_rules
  | `(tactic| array_get_dec) => `(tactic| first | assumption | exact Fx.get (by assumption) (by array_mem_dec) (by array_get_dec))
  | `(tactic| array_mem_dec) => `(tactic| first | exact List.not_mem_nil | exact nin1 (by infer_instance) | exact nin2 (by infer_instance) (by array_mem_dec))
  | `(tactic| infer_instance) => `(tactic| first | assumption | (apply Ne.symm; assumption) | exact ne_birth (by assumption) (by array_get_dec) | exact ne_birth' (by assumption) (by array_get_dec))
  | `(tactic| sizeOf_list_dec) => `(tactic| first | exact Fx.refl | assumption | (refine Fx.step ?_ (by assumption) ?_; (focus sizeOf_list_dec); (focus (simp only [List.mem_singleton, List.mem_cons, List.not_mem_nil, forall_eq, forall_eq_or_imp, or_false, false_or, false_implies, implies_true, and_true]; try (repeat' apply And.intro) <;> decreasing_trivial_pre_omega))))
  | `(tactic| decreasing_trivial_pre_omega) => `(tactic| first | assumption | exact Nat.le_refl _ | exact le_fx (by assumption) (by decreasing_trivial_pre_omega) | exact le_tr (by assumption) (by decreasing_trivial_pre_omega))
  | `(tactic| decreasing_trivial) => `(tactic| first | assumption | exact Fx.tks (by assumption) (by decreasing_trivial) | exact Fx.tks1 (by assumption) (by array_get_dec) (by decreasing_trivial))
  | `(tactic| decreasing_tactic) => `(tactic| repeat (first
    | with_reducible first
      | refine w_seq ?_ | refine w_asg ?_ | refine w_if ?_ | refine w_ret ?_ | refine w_expr ?_ | refine w_op ?_ | refine w_c ?_ | refine w_cons ?_ | refine w_nil ?_ | refine w_cb ?_ | refine w_call ?_ | refine w_B ?_ | refine w_asB ?_ | refine w_not ?_ | refine w_notV ?_ | refine w_and ?_ | refine w_or ?_ | refine w_andV ?_ | refine w_orV ?_ | refine w_un ?_ | refine w_ok ?_ | refine w_yes ?_ | refine w_ife ?_ | refine w_next ?_ | refine w_II ?_ | refine w_add ?_ | refine w_IINI ?_ | refine w_IIIN ?_ | refine w_IINN ?_ | refine w_addNI ?_ | refine w_addIN ?_ | refine w_addNN ?_ | refine w_neg ?_ | refine w_isB ?_ | refine w_isNB ?_ | refine w_lst ?_ | refine w_tup ?_ | refine w_run1 ?_ | refine w_run0 ?_ | refine w_sub ?_ | refine w_par ?_ | refine w_for ?_ | refine w_bind ?_ | refine w_chain ?_ | refine w_bm ?_ | refine w_fld ?_ | refine w_sl ?_ | refine w_noPart ?_ | refine w_part ?_ | refine w_divI (by decide) (by decide) ?_ | refine w_eqNN ?_ | refine w_neNN ?_ | refine w_eqII ?_ | refine w_neII ?_ | refine w_itList ?_ | refine w_itZip ?_ | refine w_itEnum ?_ | refine w_itTup ?_ | refine w_itRng ?_
      | refine w_var (by with_unfolding_all rfl) ?_
      | refine w_iF (by with_unfolding_all rfl) ?_ | refine w_iT (by with_unfolding_all rfl) ?_ | refine w_eF (by with_unfolding_all rfl) ?_ | refine w_eT (by with_unfolding_all rfl) ?_
      | refine w_ixt0 (by with_unfolding_all array_get_dec) ?_ | refine w_ixt1 (by with_unfolding_all array_get_dec) ?_ | refine w_ix0 (by with_unfolding_all array_get_dec) ?_ | refine w_ix1 (by with_unfolding_all array_get_dec) ?_ | refine w_bm' (by with_unfolding_all array_get_dec) ?_ | refine ⟨_, _, rfl, by with_unfolding_all array_get_dec, ?_⟩ | refine ⟨_, _, rfl, ?_⟩ | refine ⟨_, rfl, ?_⟩
    | (with_reducible refine w_name ?_; dsimp only [List.set])))

/-- the three literal looks -/
theorem lit_chain {ch : List Nat} (h : okW [(0, 1), (1, 2)] [0, 1] 0 ch) (e : ends [(0, 1), (1, 2)] 0 ch = 2) : ch = [0, 1] := by
  have g0 : ∀ {t : Nat}, [0, 1][t]? = some 0 → t = 0 := fun {t} h => by
    match t with
    | 0 => rfl
    | 1 => simp at h
    | t + 2 => simp at h
  have g1 : ∀ {t : Nat}, [0, 1][t]? = some 1 → t = 1 := fun {t} h => by
    match t with
    | 0 => simp at h
    | 1 => rfl
    | t + 2 => simp at h
  have g2 : ∀ {t : Nat}, ¬ [0, 1][t]? = some 2 := fun {t} h => by
    match t with
    | 0 => simp at h
    | 1 => simp at h
    | t + 2 => simp at h
  match ch, h, e with
  | [], _, e => exact absurd e (by decide)
  | [t], ⟨h1, _⟩, e => have := g0 h1; subst this; exact absurd e (by decide)
  | [t, u], ⟨h1, h2, _⟩, e =>
    have := g0 h1; subst this
    have := g1 h2; subst this; rfl
  | t :: u :: v :: r, ⟨h1, h2, h3, _⟩, e =>
    have := g0 h1; subst this
    have := g1 h2; subst this
    exact absurd h3 g2
theorem only1 {so : List Nat} {x : Nat} (h : so.Pairwise (· < ·)) (h1 : x ∈ so) (h2 : ∀ y ∈ so, y = x) : so = [x] := by
  match so, h, h1, h2 with
  | [], _, h1, _ => cases h1
  | [y], _, _, h2 => rw [h2 y List.mem_cons_self]
  | y :: z :: r, h, _, h2 =>
    have a := h2 y List.mem_cons_self
    have b := h2 z (List.mem_cons_of_mem _ List.mem_cons_self)
    have c := List.rel_of_pairwise_cons h (List.mem_cons_self (a := z) (l := r))
    omega
theorem other_w {z : Int} {one other n : Nat} (h2 : 2 ≤ n) (l1 : one < n) (e : ((one : Int) + 1 + z % ((n : Int) - 1)) % (n : Int) = other) : one ≠ other := by
  obtain ⟨y, h3, h4⟩ := emod_nat z (n - 1) (by omega)
  rw [show (((n - 1 : Nat)) : Int) = (n : Int) - 1 by omega] at h4
  rw [h4] at e
  have h5 := other_ne h2 l1 h3
  have : (((one + 1 + y) % n : Nat) : Int) = (other : Int) := by rw [Int.natCast_emod, Int.natCast_add, Int.natCast_add]; exact e
  omega
theorem law_true3 {ns : List Int} (hl : ns.length ≤ 63) (hb : ∀ z ∈ ns, bits z ≤ 1048576) : ∃ S', i_law [.scr ns] [] = .ok (.bl true) S' := by
  suffices h : OkR (i_law [.scr ns] []) fun v _ => v = .bl true by
    obtain ⟨v, S', e, rfl⟩ := h.ex
    exact ⟨S', e⟩
  refine w_mk rfl rfl ?_
  dsimp only [List.map, List.length, List.replicate, List.cons_append, List.nil_append]
  decreasing_tactic
  refine tasks_w (cs := ns) rfl hl hb fun k p n ts vs S1 x1 b1 m1 m2 ht gt h2 h60 tlen => ?_
  refine w_tgt1 m1 rfl ?_
  decreasing_tactic
  intro p63 S2 b2 x2 m3
  rw [cut63 _ hl] at m3
  decreasing_tactic
  refine w_sum m3 ?_
  decreasing_tactic
  refine sharing_w (cs := ns) (by_ := 0) (n := n) rfl hl hb (by array_get_dec) (by decreasing_trivial) gt tlen (by omega) fun q0 sh0 S3 b3 x3 s0 gs0 => ?_
  decreasing_tactic
  refine sharing_w (cs := ns) (by_ := 1) (n := n) rfl hl hb (by array_get_dec) (by decreasing_trivial) gt tlen (by omega) fun q1 sh1 S4 b4 x4 s1 gs1 => ?_
  decreasing_tactic
  refine w_lows rfl (by decide) (by simp) (by array_get_dec) (by decreasing_trivial) (by omega) fun q2 S5 b5 x5 s2 => ?_
  decreasing_tactic
  intro q4 S6 b6 x6 m4
  decreasing_tactic
  intro p7 S7 b7 x7 m7
  rw [show (some (4 : Int)) = some ((4 : Nat) : Int) from rfl, cut_to] at m7
  decreasing_tactic
  intro p8 S8 b8 x8 m8
  refine w_addL (by array_get_dec) m8 (by simp; omega) fun p9 S9 b9 x9 m9 => ?_
  rw [show (ns.map Va.int).take 4 ++ [Va.int 0, Va.int ns.sum] = (ns.take 4 ++ [0, ns.sum]).map Va.int by simp] at m9
  decreasing_tactic
  have three : ∀ i, i < 3 → ∃ q sh, [Va.ref q0, Va.ref q1, Va.ref q2][i]? = some (.ref q) ∧ S9[q]? = some (LN sh) ∧ GS ts sh := fun i hi => by
    match i, hi with
    | 0, _ => exact ⟨q0, sh0, rfl, by array_get_dec, gs0⟩
    | 1, _ => exact ⟨q1, sh1, rfl, by array_get_dec, gs1⟩
    | 2, _ => exact ⟨q2, _, rfl, by array_get_dec, low_GS ts⟩
  refine w_fE (ob := .lst ((ns.take 4 ++ [0, ns.sum]).map Va.int)) (fun j ρ S' => (∃ y5 y6 y7 y8 y9 y10, ρ = [some (.scr ns), some (vN n), some (.ref p), some (.int ns.sum), some (.ref q4), y5, y6, y7, y8, y9, y10, none]) ∧ Fx [] S9 S') m9 ⟨⟨_, _, _, _, _, _, rfl⟩, Fx.refl⟩ ?_ ?_
  · rintro j v _ S10 ej ⟨⟨y5, y6, y7, y8, y9, y10, rfl⟩, x10⟩
    obtain ⟨c, _, rfl⟩ := map_get ej
    refine ⟨by array_get_dec, w_tgt rfl ?_⟩
    decreasing_tactic
    refine w_modN (by omega) fun one l1 _ => ?_
    decreasing_tactic
    refine w_modI (by omega) ?_
    decreasing_tactic
    refine w_modN (by omega) fun other l2 e2 => ?_
    have hne := other_w h2 l1 e2
    decreasing_tactic
    refine w_modNL (m := 3) (by decide) ?_
    obtain ⟨q, sh, t1, t2, t3⟩ := three (j % 3) (Nat.mod_lt _ (by decide))
    refine w_ixLv (by array_get_dec) t1 ?_
    decreasing_tactic
    obtain ⟨qb, shb, u1, u2, u3⟩ := three ((j + 1) % 3) (Nat.mod_lt _ (by decide))
    refine w_modNL (x := j + 1) (m := 3) (by decide) ?_
    refine w_ixLv (by array_get_dec) u1 ?_
    decreasing_tactic
    intro w1 S11 b11 x11 m11
    decreasing_tactic
    intro w2 S12 b12 x12 m12
    decreasing_tactic
    intro w3 S13 b13 x13 m13
    decreasing_tactic
    intro w4 S14 b14 x14 m14
    decreasing_tactic
    refine OkR.imp (right_w3 (one := one) (other := other) (os := [(shb, one, other), (sh, other, one)]) (by array_get_dec) (by decreasing_trivial) (by array_get_dec) m14 (by array_get_dec) (.cons ⟨w1, qb, rfl, by array_get_dec, by array_get_dec, u3⟩ (.cons ⟨w2, q, rfl, by array_get_dec, by array_get_dec, t3⟩ .nil)) gt t3 l1 l2 hne h60 (by omega)) ?_
    rintro _ S15 ⟨rfl, x15⟩
    decreasing_tactic
    exact ⟨⟨_, _, _, _, _, _, rfl⟩, by sizeOf_list_dec⟩
  rintro _ S10 ⟨⟨y5, y6, y7, y8, y9, y10, rfl⟩, x10⟩
  refine ⟨by array_get_dec, ?_⟩
  decreasing_tactic
  intro a1 S11 b11 x11 m11
  decreasing_tactic
  intro a2 S12 b12 x12 m12
  decreasing_tactic
  intro a3 S13 b13 x13 m13
  decreasing_tactic
  intro a4 S14 b14 x14 m14
  decreasing_tactic
  refine passed_w (n := 3) (one := 0) (other := 2) (ts := [(0, 1), (1, 2)]) (sh := [0, 1]) (by array_get_dec) (.cons ⟨a1, rfl, by array_get_dec⟩ (.cons ⟨a2, rfl, by array_get_dec⟩ .nil)) (by unfold GT; decide) (by array_get_dec) (.cons (.inl rfl) (.cons (.inl rfl) .nil)) (by decide) (by decide) (by decide) (by decide) (by decide) fun k15 S15 b15 x15 P15 => ?_
  rcases P15 with ⟨ch, c1, c2, c3, c4, _⟩ | ⟨so, _, _, _, _, c5, c6, c7⟩
  rotate_left
  · exact absurd (c7 1 1 rfl (c7 0 0 rfl c5)) c6
  have := lit_chain c3 c4
  subst this
  refine ⟨_, _, _, _, rfl, c1, by decide +kernel, lk1, ?_⟩
  decreasing_tactic
  intro a5 S16 b16 x16 m16
  refine w_nePLN (xs := [0, 1]) (ys := [0, 1]) (by array_get_dec) m16 ?_
  decreasing_tactic
  intro a1 S21 b21 x21 m21
  decreasing_tactic
  intro a2 S22 b22 x22 m22
  decreasing_tactic
  intro a3 S23 b23 x23 m23
  decreasing_tactic
  intro a4 S24 b24 x24 m24
  decreasing_tactic
  refine passed_w (n := 3) (one := 0) (other := 2) (ts := [(0, 1), (1, 2)]) (sh := [1, 1]) (by array_get_dec) (.cons ⟨a1, rfl, by array_get_dec⟩ (.cons ⟨a2, rfl, by array_get_dec⟩ .nil)) (by unfold GT; decide) (by array_get_dec) (.cons (.inr rfl) (.cons (.inl rfl) .nil)) (by decide) (by decide) (by decide) (by decide) (by decide) fun k25 S25 b25 x25 P25 => ?_
  rcases P25 with ⟨ch, d1, d2, d3, d4, _⟩ | ⟨so, d1, d2, d3, d4, d5, d6, d7⟩
  · exfalso
    match ch, d3, d4 with
    | [], _, d4 => exact absurd d4 (by decide)
    | t :: r, ⟨z, _⟩, _ =>
      match t, z with
      | 0, z => simp at z
      | 1, z => simp at z
      | t + 2, z => simp at z
  have := only1 d3 d5 fun y hy => by
    have h3 := d4 y hy
    match y, hy, h3 with
    | 0, _, _ => rfl
    | 1, hy, _ => exact absurd (d7 1 1 rfl hy) d6
    | 2, hy, _ => exact absurd hy d6
  subst this
  refine ⟨_, _, _, _, rfl, d1, by decide +kernel, lk1, ?_⟩
  decreasing_tactic
  intro a5 S26 b26 x26 m26
  refine w_eqLN (xs := [0]) (ys := [0]) (by array_get_dec) m26 ?_
  decreasing_tactic
  intro a1 S31 b31 x31 m31
  decreasing_tactic
  intro a2 S32 b32 x32 m32
  decreasing_tactic
  refine passed_w (n := 2) (one := 1) (other := 0) (ts := []) (sh := []) (by array_get_dec) .nil (by unfold GT; decide) (by array_get_dec) .nil (by decide) (by decide) (by decide) (by decide) (by decide) fun k35 S35 b35 x35 P35 => ?_
  rcases P35 with ⟨ch, d1, d2, d3, d4, _⟩ | ⟨so, d1, d2, d3, d4, d5, d6, d7⟩
  · exfalso
    match ch, d3, d4 with
    | [], _, d4 => exact absurd d4 (by decide)
    | t :: r, ⟨z, _⟩, _ => simp at z
  have := only1 d3 d5 fun y hy => by
    have h3 := d4 y hy
    match y, hy, h3 with
    | 0, hy, _ => exact absurd hy d6
    | 1, hy, _ => rfl
  subst this
  refine ⟨_, _, _, _, rfl, d1, by decide +kernel, lk1, ?_⟩
  decreasing_tactic
  intro a5 S36 b36 x36 m36
  exact w_eqLN (xs := [1]) (ys := [1]) (by array_get_dec) m36 rfl
end IL

end
section
set_option Elab.async false
set_option linter.all false
set_option maxRecDepth 100000
set_option maxHeartbeats 4000000
namespace IL
open PySem L2
section
variable {P : Program} {w : World} {g : Gm} {mg : Str → Option Value} {base : Heap}

theorem chain (T : Tx g mg) {f0 : Addr} {fd0 : FuncData} (F0 : Fun g.K "is_number" "is_number" s_is_number f0 fd0) (m0 : mg "is_number" = some (.ref f0)) (b0 : Binds g.K fd0 ["thing", "least"] []) {f1 : Addr} {fd1 : FuncData} (F1 : Fun g.K "is_task" "is_task" s_is_task f1 fd1) (m1 : mg "is_task" = some (.ref f1)) (b1 : Binds g.K fd1 ["thing", "people"] []) {f2 : Addr} {fd2 : FuncData} (F2 : Fun g.K "check_tasks" "check_tasks" s_check_tasks f2 fd2) (m2 : mg "check_tasks" = some (.ref f2)) (b2 : Binds g.K fd2 ["people", "tasks"] []) {f3 : Addr} {fd3 : FuncData} (F3 : Fun g.K "is_sharing" "is_sharing" s_is_sharing f3 fd3) (m3 : mg "is_sharing" = some (.ref f3)) (b3 : Binds g.K fd3 ["tasks", "sharing"] []) {f4 : Addr} {fd4 : FuncData} (F4 : Fun g.K "check_sharing" "check_sharing" s_check_sharing f4 fd4) (m4 : mg "check_sharing" = some (.ref f4)) (b4 : Binds g.K fd4 ["tasks", "sharing"] []) {f5 : Addr} {fd5 : FuncData} (F5 : Fun g.K "loads_of" "loads_of" s_loads_of f5 fd5) (m5 : mg "loads_of" = some (.ref f5)) (b5 : Binds g.K fd5 ["people", "sharing"] []) {f6 : Addr} {fd6 : FuncData} (F6 : Fun g.K "second_of" "second_of" s_second_of f6 fd6) (m6 : mg "second_of" = some (.ref f6)) (b6 : Binds g.K fd6 ["task", "who"] []) {f7 : Addr} {fd7 : FuncData} (F7 : Fun g.K "among" "among" s_among f7 fd7) (m7 : mg "among" = some (.ref f7)) (b7 : Binds g.K fd7 ["tasks", "some"] []) {f8 : Addr} {fd8 : FuncData} (F8 : Fun g.K "are_people" "are_people" s_are_people f8 fd8) (m8 : mg "are_people" = some (.ref f8)) (b8 : Binds g.K fd8 ["some", "people"] []) {f9 : Addr} {fd9 : FuncData} (F9 : Fun g.K "__init__" "Shared.__init__" s_Shared_init f9 fd9) (m9 : Mk g.K (g.γ "Shared") f9) (b9 : Binds g.K fd9 ["self", "sharing"] []) {f10 : Addr} {fd10 : FuncData} (F10 : Fun g.K "shows" "Shared.shows" s_Shared_shows f10 fd10) (m10 : Meth g.K (g.γ "Shared") "shows" f10) (b10 : Binds g.K fd10 ["self", "people", "tasks", "limits"] []) {f11 : Addr} {fd11 : FuncData} (F11 : Fun g.K "__init__" "Crowd.__init__" s_Crowd_init f11 fd11) (m11 : Mk g.K (g.γ "Crowd") f11) (b11 : Binds g.K fd11 ["self", "some"] []) {f12 : Addr} {fd12 : FuncData} (F12 : Fun g.K "shows" "Crowd.shows" s_Crowd_shows f12 fd12) (m12 : Meth g.K (g.γ "Crowd") "shows" f12) (b12 : Binds g.K fd12 ["self", "people", "tasks", "limits"] []) {f13 : Addr} {fd13 : FuncData} (F13 : Fun g.K "__init__" "Even.__init__" s_Even_init f13 fd13) (m13 : Mk g.K (g.γ "Even") f13) (b13 : Binds g.K fd13 ["self", "sharing", "some"] []) {f14 : Addr} {fd14 : FuncData} (F14 : Fun g.K "shows" "Even.shows" s_Even_shows f14 fd14) (m14 : Meth g.K (g.γ "Even") "shows" f14) (b14 : Binds g.K fd14 ["self", "people", "tasks"] []) {f15 : Addr} {fd15 : FuncData} (F15 : Fun g.K "__init__" "Chain.__init__" s_Chain_init f15 fd15) (m15 : Mk g.K (g.γ "Chain") f15) (b15 : Binds g.K fd15 ["self", "tasks"] []) {f16 : Addr} {fd16 : FuncData} (F16 : Fun g.K "shows" "Chain.shows" s_Chain_shows f16 fd16) (m16 : Meth g.K (g.γ "Chain") "shows" f16) (b16 : Binds g.K fd16 ["self", "people", "tasks", "sharing", "one", "other"] []) {f17 : Addr} {fd17 : FuncData} (F17 : Fun g.K "__init__" "Side.__init__" s_Side_init f17 fd17) (m17 : Mk g.K (g.γ "Side") f17) (b17 : Binds g.K fd17 ["self", "some"] []) {f18 : Addr} {fd18 : FuncData} (F18 : Fun g.K "shows" "Side.shows" s_Side_shows f18 fd18) (m18 : Meth g.K (g.γ "Side") "shows" f18) (b18 : Binds g.K fd18 ["self", "people", "tasks", "sharing", "one", "other"] []) {f19 : Addr} {fd19 : FuncData} (F19 : Fun g.K "came_from" "came_from" s_came_from f19 fd19) (m19 : mg "came_from" = some (.ref f19)) (b19 : Binds g.K fd19 ["tasks", "sharing", "begins"] []) {f20 : Addr} {fd20 : FuncData} (F20 : Fun g.K "chain_to" "chain_to" s_chain_to f20 fd20) (m20 : mg "chain_to" = some (.ref f20)) (b20 : Binds g.K fd20 ["tasks", "came", "person"] []) {f21 : Addr} {fd21 : FuncData} (F21 : Fun g.K "passed" "passed" s_passed f21 fd21) (m21 : mg "passed" = some (.ref f21)) (b21 : Binds g.K fd21 ["people", "tasks", "sharing", "one", "other"] []) {f22 : Addr} {fd22 : FuncData} (F22 : Fun g.K "_law_number" "_law_number" s__law_number f22 fd22) (m22 : mg "_law_number" = some (.ref f22)) (b22 : Binds g.K fd22 ["_law_cell", "_law_at", "_law_whole"] []) {f23 : Addr} {fd23 : FuncData} (F23 : Fun g.K "_law_tasks" "_law_tasks" s__law_tasks f23 fd23) (m23 : mg "_law_tasks" = some (.ref f23)) (b23 : Binds g.K fd23 ["_law_script"] []) {f24 : Addr} {fd24 : FuncData} (F24 : Fun g.K "_law_sharing" "_law_sharing" s__law_sharing f24 fd24) (m24 : mg "_law_sharing" = some (.ref f24)) (b24 : Binds g.K fd24 ["_law_script", "_law_tasks_here", "_law_by"] []) {f25 : Addr} {fd25 : FuncData} (F25 : Fun g.K "_law_loads" "_law_loads" s__law_loads f25 fd25) (m25 : mg "_law_loads" = some (.ref f25)) (b25 : Binds g.K fd25 ["_law_people_here", "_law_sharing_here"] []) {f26 : Addr} {fd26 : FuncData} (F26 : Fun g.K "_law_wholes" "_law_wholes" s__law_wholes f26 fd26) (m26 : mg "_law_wholes" = some (.ref f26)) (b26 : Binds g.K fd26 ["_law_found"] []) {f27 : Addr} {fd27 : FuncData} (F27 : Fun g.K "_law_people" "_law_people" s__law_people f27 fd27) (m27 : mg "_law_people" = some (.ref f27)) (b27 : Binds g.K fd27 ["_law_some", "_law_people_here"] []) {f28 : Addr} {fd28 : FuncData} (F28 : Fun g.K "_law_second" "_law_second" s__law_second f28 fd28) (m28 : mg "_law_second" = some (.ref f28)) (b28 : Binds g.K fd28 ["_law_task", "_law_who"] []) {f29 : Addr} {fd29 : FuncData} (F29 : Fun g.K "_law_due" "_law_due" s__law_due f29 fd29) (m29 : mg "_law_due" = some (.ref f29)) (b29 : Binds g.K fd29 ["_law_people_here", "_law_tasks_here", "_law_sharing_here", "_law_ends", "_law_found"] []) {f30 : Addr} {fd30 : FuncData} (F30 : Fun g.K "_law_leads" "_law_leads" s__law_leads f30 fd30) (m30 : mg "_law_leads" = some (.ref f30)) (b30 : Binds g.K fd30 ["_law_tasks_here", "_law_sharing_here", "_law_ends"] []) {f31 : Addr} {fd31 : FuncData} (F31 : Fun g.K "_law_right" "_law_right" s__law_right f31 fd31) (m31 : mg "_law_right" = some (.ref f31)) (b31 : Binds g.K fd31 ["_law_people_here", "_law_tasks_here", "_law_sharing_here", "_law_ends", "_law_others"] []) {f32 : Addr} {fd32 : FuncData} (F32 : Fun g.K "law" "law" s_law f32 fd32) : FnOk P w g.K mg base CX0 6 f32 fd32 ["_law_script"] (iSp g i_law) := by
  have c_is_number : Cal P w g.K mg base CX0 1 "is_number" ["thing", "least"] (iSp g i_is_number) := ⟨_, _, ok_is_number F0 T , m0, F0.kp, b0⟩
  have c_is_task : Cal P w g.K mg base CX0 2 "is_task" ["thing", "people"] (iSp g i_is_task) := ⟨_, _, ok_is_task F1 T c_is_number, m1, F1.kp, b1⟩
  have c_check_tasks : Cal P w g.K mg base CX0 3 "check_tasks" ["people", "tasks"] (iSp g i_check_tasks) := ⟨_, _, ok_check_tasks F2 T c_is_number c_is_task, m2, F2.kp, b2⟩
  have c_is_sharing : Cal P w g.K mg base CX0 2 "is_sharing" ["tasks", "sharing"] (iSp g i_is_sharing) := ⟨_, _, ok_is_sharing F3 T c_is_number, m3, F3.kp, b3⟩
  have c_check_sharing : Cal P w g.K mg base CX0 3 "check_sharing" ["tasks", "sharing"] (iSp g i_check_sharing) := ⟨_, _, ok_check_sharing F4 T c_is_sharing, m4, F4.kp, b4⟩
  have c_loads_of : Cal P w g.K mg base CX0 1 "loads_of" ["people", "sharing"] (iSp g i_loads_of) := ⟨_, _, ok_loads_of F5 T , m5, F5.kp, b5⟩
  have c_second_of : Cal P w g.K mg base CX0 1 "second_of" ["task", "who"] (iSp g i_second_of) := ⟨_, _, ok_second_of F6 T , m6, F6.kp, b6⟩
  have c_among : Cal P w g.K mg base CX0 1 "among" ["tasks", "some"] (iSp g i_among) := ⟨_, _, ok_among F7 T , m7, F7.kp, b7⟩
  have c_are_people : Cal P w g.K mg base CX0 1 "are_people" ["some", "people"] (iSp g i_are_people) := ⟨_, _, ok_are_people F8 T , m8, F8.kp, b8⟩
  have m_Shared : Mkc P w g.K mg base 1 "Shared" (g.γ "Shared") ["self", "sharing"] (iSp g i_Shared_init) := ⟨_, _, ok_Shared_init F9 T , m9, T.g_Shared, b9⟩
  have c_Shared_shows : Mcal P w g.K mg base 3 (g.γ "Shared") "shows" ["self", "people", "tasks", "limits"] (iSp g i_Shared_shows) := ⟨_, _, ok_Shared_shows F10 T c_is_sharing c_loads_of, T.cl.cls "Shared" (by decide +kernel), m10, b10⟩
  have m_Crowd : Mkc P w g.K mg base 1 "Crowd" (g.γ "Crowd") ["self", "some"] (iSp g i_Crowd_init) := ⟨_, _, ok_Crowd_init F11 T , m11, T.g_Crowd, b11⟩
  have c_Crowd_shows : Mcal P w g.K mg base 2 (g.γ "Crowd") "shows" ["self", "people", "tasks", "limits"] (iSp g i_Crowd_shows) := ⟨_, _, ok_Crowd_shows F12 T c_are_people c_among, T.cl.cls "Crowd" (by decide +kernel), m12, b12⟩
  have m_Even : Mkc P w g.K mg base 1 "Even" (g.γ "Even") ["self", "sharing", "some"] (iSp g i_Even_init) := ⟨_, _, ok_Even_init F13 T , m13, T.g_Even, b13⟩
  have c_Even_shows : Mcal P w g.K mg base 3 (g.γ "Even") "shows" ["self", "people", "tasks"] (iSp g i_Even_shows) := ⟨_, _, ok_Even_shows F14 T c_loads_of c_among c_is_sharing c_are_people, T.cl.cls "Even" (by decide +kernel), m14, b14⟩
  have m_Chain : Mkc P w g.K mg base 1 "Chain" (g.γ "Chain") ["self", "tasks"] (iSp g i_Chain_init) := ⟨_, _, ok_Chain_init F15 T , m15, T.g_Chain, b15⟩
  have c_Chain_shows : Mcal P w g.K mg base 2 (g.γ "Chain") "shows" ["self", "people", "tasks", "sharing", "one", "other"] (iSp g i_Chain_shows) := ⟨_, _, ok_Chain_shows F16 T c_second_of, T.cl.cls "Chain" (by decide +kernel), m16, b16⟩
  have m_Side : Mkc P w g.K mg base 1 "Side" (g.γ "Side") ["self", "some"] (iSp g i_Side_init) := ⟨_, _, ok_Side_init F17 T , m17, T.g_Side, b17⟩
  have c_Side_shows : Mcal P w g.K mg base 2 (g.γ "Side") "shows" ["self", "people", "tasks", "sharing", "one", "other"] (iSp g i_Side_shows) := ⟨_, _, ok_Side_shows F18 T c_are_people c_second_of, T.cl.cls "Side" (by decide +kernel), m18, b18⟩
  have c_came_from : Cal P w g.K mg base CX0 2 "came_from" ["tasks", "sharing", "begins"] (iSp g i_came_from) := ⟨_, _, ok_came_from F19 T c_second_of, m19, F19.kp, b19⟩
  have c_chain_to : Cal P w g.K mg base CX0 2 "chain_to" ["tasks", "came", "person"] (iSp g i_chain_to) := ⟨_, _, ok_chain_to F20 T c_second_of, m20, F20.kp, b20⟩
  have c_passed : Cal P w g.K mg base CX0 4 "passed" ["people", "tasks", "sharing", "one", "other"] (iSp g i_passed) := ⟨_, _, ok_passed F21 T c_check_tasks c_check_sharing c_came_from m_Chain m_Side c_chain_to c_is_number, m21, F21.kp, b21⟩
  have c__law_number : Cal P w g.K mg base CX0 1 "_law_number" ["_law_cell", "_law_at", "_law_whole"] (iSp g i__law_number) := ⟨_, _, ok__law_number F22 T , m22, F22.kp, b22⟩
  have c__law_tasks : Cal P w g.K mg base CX0 2 "_law_tasks" ["_law_script"] (iSp g i__law_tasks) := ⟨_, _, ok__law_tasks F23 T c__law_number, m23, F23.kp, b23⟩
  have c__law_sharing : Cal P w g.K mg base CX0 2 "_law_sharing" ["_law_script", "_law_tasks_here", "_law_by"] (iSp g i__law_sharing) := ⟨_, _, ok__law_sharing F24 T c__law_number, m24, F24.kp, b24⟩
  have c__law_loads : Cal P w g.K mg base CX0 1 "_law_loads" ["_law_people_here", "_law_sharing_here"] (iSp g i__law_loads) := ⟨_, _, ok__law_loads F25 T , m25, F25.kp, b25⟩
  have c__law_wholes : Cal P w g.K mg base CX0 1 "_law_wholes" ["_law_found"] (iSp g i__law_wholes) := ⟨_, _, ok__law_wholes F26 T , m26, F26.kp, b26⟩
  have c__law_people : Cal P w g.K mg base CX0 2 "_law_people" ["_law_some", "_law_people_here"] (iSp g i__law_people) := ⟨_, _, ok__law_people F27 T c__law_wholes, m27, F27.kp, b27⟩
  have c__law_second : Cal P w g.K mg base CX0 1 "_law_second" ["_law_task", "_law_who"] (iSp g i__law_second) := ⟨_, _, ok__law_second F28 T , m28, F28.kp, b28⟩
  have c__law_due : Cal P w g.K mg base CX0 3 "_law_due" ["_law_people_here", "_law_tasks_here", "_law_sharing_here", "_law_ends", "_law_found"] (iSp g i__law_due) := ⟨_, _, ok__law_due F29 T c__law_second c__law_people, m29, F29.kp, b29⟩
  have c__law_leads : Cal P w g.K mg base CX0 2 "_law_leads" ["_law_tasks_here", "_law_sharing_here", "_law_ends"] (iSp g i__law_leads) := ⟨_, _, ok__law_leads F30 T c__law_second, m30, F30.kp, b30⟩
  have c__law_right : Cal P w g.K mg base CX0 5 "_law_right" ["_law_people_here", "_law_tasks_here", "_law_sharing_here", "_law_ends", "_law_others"] (iSp g i__law_right) := ⟨_, _, ok__law_right F31 T c_passed c__law_wholes c_Chain_shows c_Side_shows c__law_loads c__law_leads c__law_due c__law_second, m31, F31.kp, b31⟩
  exact ok_law F32 T c__law_tasks c__law_sharing c__law_right c_passed

theorem all_mk {l : PySem.W.OpenLaw} {w : World} {K : PySem.W.Frag} {h : Heap} {mg : Str → Option Value} {fa : Addr} (X : K.In h) (G : h.Ns mainGlobals mg) (hfa : mg "law" = some (.ref fa))
    {C_Answer C_Shared C_Crowd C_Even C_Chain C_Side : Addr}
    (a_Answer : PySem.W.nsIn K mainGlobals "Answer" = some (some (.ref C_Answer))) {q_Answer : _} (cq_Answer : PySem.W.clsIn K C_Answer = some q_Answer) (pg_Answer : PySem.W.plainGet K C_Answer Str.empty = true) (hd_Answer : PySem.W.hasDictIn K C_Answer = true) (po_Answer : PySem.W.plainOver K C_Answer = true) (sa_Answer : PySem.W.findIn K (.ref C_Answer) "__setattr__" = some (some (.builtin "object.__setattr__"))) (hc_Answer : PySem.W.findIn K (.ref C_Answer) "__class__" = some (some (.builtin "object.__class__"))) (hm_Answer : PySem.W.mroIn K C_Answer (.type "object") = some true) (ty_Answer : PySem.W.typeIn K (.ref C_Answer) = some (.type "type")) (na_sharing_Answer : PySem.W.findIn K (.ref C_Answer) "sharing" = some none) (na_some_Answer : PySem.W.findIn K (.ref C_Answer) "some" = some none) (na_tasks_Answer : PySem.W.findIn K (.ref C_Answer) "tasks" = some none)
    (a_Shared : PySem.W.nsIn K mainGlobals "Shared" = some (some (.ref C_Shared))) {q_Shared : _} (cq_Shared : PySem.W.clsIn K C_Shared = some q_Shared) (pg_Shared : PySem.W.plainGet K C_Shared Str.empty = true) (hd_Shared : PySem.W.hasDictIn K C_Shared = true) (po_Shared : PySem.W.plainOver K C_Shared = true) (sa_Shared : PySem.W.findIn K (.ref C_Shared) "__setattr__" = some (some (.builtin "object.__setattr__"))) (hc_Shared : PySem.W.findIn K (.ref C_Shared) "__class__" = some (some (.builtin "object.__class__"))) (hm_Shared : PySem.W.mroIn K C_Shared (.type "object") = some true) (ty_Shared : PySem.W.typeIn K (.ref C_Shared) = some (.type "type")) (na_sharing_Shared : PySem.W.findIn K (.ref C_Shared) "sharing" = some none) (na_some_Shared : PySem.W.findIn K (.ref C_Shared) "some" = some none) (na_tasks_Shared : PySem.W.findIn K (.ref C_Shared) "tasks" = some none) (mk_Shared : PySem.W.makesIn K C_Shared = true) (kc_Shared : PySem.W.keepIn K (.ref C_Shared) = true)
    (a_Crowd : PySem.W.nsIn K mainGlobals "Crowd" = some (some (.ref C_Crowd))) {q_Crowd : _} (cq_Crowd : PySem.W.clsIn K C_Crowd = some q_Crowd) (pg_Crowd : PySem.W.plainGet K C_Crowd Str.empty = true) (hd_Crowd : PySem.W.hasDictIn K C_Crowd = true) (po_Crowd : PySem.W.plainOver K C_Crowd = true) (sa_Crowd : PySem.W.findIn K (.ref C_Crowd) "__setattr__" = some (some (.builtin "object.__setattr__"))) (hc_Crowd : PySem.W.findIn K (.ref C_Crowd) "__class__" = some (some (.builtin "object.__class__"))) (hm_Crowd : PySem.W.mroIn K C_Crowd (.type "object") = some true) (ty_Crowd : PySem.W.typeIn K (.ref C_Crowd) = some (.type "type")) (na_sharing_Crowd : PySem.W.findIn K (.ref C_Crowd) "sharing" = some none) (na_some_Crowd : PySem.W.findIn K (.ref C_Crowd) "some" = some none) (na_tasks_Crowd : PySem.W.findIn K (.ref C_Crowd) "tasks" = some none) (mk_Crowd : PySem.W.makesIn K C_Crowd = true) (kc_Crowd : PySem.W.keepIn K (.ref C_Crowd) = true)
    (a_Even : PySem.W.nsIn K mainGlobals "Even" = some (some (.ref C_Even))) {q_Even : _} (cq_Even : PySem.W.clsIn K C_Even = some q_Even) (pg_Even : PySem.W.plainGet K C_Even Str.empty = true) (hd_Even : PySem.W.hasDictIn K C_Even = true) (po_Even : PySem.W.plainOver K C_Even = true) (sa_Even : PySem.W.findIn K (.ref C_Even) "__setattr__" = some (some (.builtin "object.__setattr__"))) (hc_Even : PySem.W.findIn K (.ref C_Even) "__class__" = some (some (.builtin "object.__class__"))) (hm_Even : PySem.W.mroIn K C_Even (.type "object") = some true) (ty_Even : PySem.W.typeIn K (.ref C_Even) = some (.type "type")) (na_sharing_Even : PySem.W.findIn K (.ref C_Even) "sharing" = some none) (na_some_Even : PySem.W.findIn K (.ref C_Even) "some" = some none) (na_tasks_Even : PySem.W.findIn K (.ref C_Even) "tasks" = some none) (mk_Even : PySem.W.makesIn K C_Even = true) (kc_Even : PySem.W.keepIn K (.ref C_Even) = true)
    (a_Chain : PySem.W.nsIn K mainGlobals "Chain" = some (some (.ref C_Chain))) {q_Chain : _} (cq_Chain : PySem.W.clsIn K C_Chain = some q_Chain) (pg_Chain : PySem.W.plainGet K C_Chain Str.empty = true) (hd_Chain : PySem.W.hasDictIn K C_Chain = true) (po_Chain : PySem.W.plainOver K C_Chain = true) (sa_Chain : PySem.W.findIn K (.ref C_Chain) "__setattr__" = some (some (.builtin "object.__setattr__"))) (hc_Chain : PySem.W.findIn K (.ref C_Chain) "__class__" = some (some (.builtin "object.__class__"))) (hm_Chain : PySem.W.mroIn K C_Chain (.type "object") = some true) (ty_Chain : PySem.W.typeIn K (.ref C_Chain) = some (.type "type")) (na_sharing_Chain : PySem.W.findIn K (.ref C_Chain) "sharing" = some none) (na_some_Chain : PySem.W.findIn K (.ref C_Chain) "some" = some none) (na_tasks_Chain : PySem.W.findIn K (.ref C_Chain) "tasks" = some none) (mk_Chain : PySem.W.makesIn K C_Chain = true) (kc_Chain : PySem.W.keepIn K (.ref C_Chain) = true)
    (a_Side : PySem.W.nsIn K mainGlobals "Side" = some (some (.ref C_Side))) {q_Side : _} (cq_Side : PySem.W.clsIn K C_Side = some q_Side) (pg_Side : PySem.W.plainGet K C_Side Str.empty = true) (hd_Side : PySem.W.hasDictIn K C_Side = true) (po_Side : PySem.W.plainOver K C_Side = true) (sa_Side : PySem.W.findIn K (.ref C_Side) "__setattr__" = some (some (.builtin "object.__setattr__"))) (hc_Side : PySem.W.findIn K (.ref C_Side) "__class__" = some (some (.builtin "object.__class__"))) (hm_Side : PySem.W.mroIn K C_Side (.type "object") = some true) (ty_Side : PySem.W.typeIn K (.ref C_Side) = some (.type "type")) (na_sharing_Side : PySem.W.findIn K (.ref C_Side) "sharing" = some none) (na_some_Side : PySem.W.findIn K (.ref C_Side) "some" = some none) (na_tasks_Side : PySem.W.findIn K (.ref C_Side) "tasks" = some none) (mk_Side : PySem.W.makesIn K C_Side = true) (kc_Side : PySem.W.keepIn K (.ref C_Side) = true)
    (s_Answer_Answer : PySem.W.subIn K (.ref C_Answer) (.ref C_Answer) = some true)
    (s_Answer_Shared : PySem.W.subIn K (.ref C_Answer) (.ref C_Shared) = some false)
    (s_Answer_Crowd : PySem.W.subIn K (.ref C_Answer) (.ref C_Crowd) = some false)
    (s_Answer_Even : PySem.W.subIn K (.ref C_Answer) (.ref C_Even) = some false)
    (s_Answer_Chain : PySem.W.subIn K (.ref C_Answer) (.ref C_Chain) = some false)
    (s_Answer_Side : PySem.W.subIn K (.ref C_Answer) (.ref C_Side) = some false)
    (s_Shared_Answer : PySem.W.subIn K (.ref C_Shared) (.ref C_Answer) = some true)
    (s_Shared_Shared : PySem.W.subIn K (.ref C_Shared) (.ref C_Shared) = some true)
    (s_Shared_Crowd : PySem.W.subIn K (.ref C_Shared) (.ref C_Crowd) = some false)
    (s_Shared_Even : PySem.W.subIn K (.ref C_Shared) (.ref C_Even) = some false)
    (s_Shared_Chain : PySem.W.subIn K (.ref C_Shared) (.ref C_Chain) = some false)
    (s_Shared_Side : PySem.W.subIn K (.ref C_Shared) (.ref C_Side) = some false)
    (s_Crowd_Answer : PySem.W.subIn K (.ref C_Crowd) (.ref C_Answer) = some true)
    (s_Crowd_Shared : PySem.W.subIn K (.ref C_Crowd) (.ref C_Shared) = some false)
    (s_Crowd_Crowd : PySem.W.subIn K (.ref C_Crowd) (.ref C_Crowd) = some true)
    (s_Crowd_Even : PySem.W.subIn K (.ref C_Crowd) (.ref C_Even) = some false)
    (s_Crowd_Chain : PySem.W.subIn K (.ref C_Crowd) (.ref C_Chain) = some false)
    (s_Crowd_Side : PySem.W.subIn K (.ref C_Crowd) (.ref C_Side) = some false)
    (s_Even_Answer : PySem.W.subIn K (.ref C_Even) (.ref C_Answer) = some true)
    (s_Even_Shared : PySem.W.subIn K (.ref C_Even) (.ref C_Shared) = some false)
    (s_Even_Crowd : PySem.W.subIn K (.ref C_Even) (.ref C_Crowd) = some false)
    (s_Even_Even : PySem.W.subIn K (.ref C_Even) (.ref C_Even) = some true)
    (s_Even_Chain : PySem.W.subIn K (.ref C_Even) (.ref C_Chain) = some false)
    (s_Even_Side : PySem.W.subIn K (.ref C_Even) (.ref C_Side) = some false)
    (s_Chain_Answer : PySem.W.subIn K (.ref C_Chain) (.ref C_Answer) = some true)
    (s_Chain_Shared : PySem.W.subIn K (.ref C_Chain) (.ref C_Shared) = some false)
    (s_Chain_Crowd : PySem.W.subIn K (.ref C_Chain) (.ref C_Crowd) = some false)
    (s_Chain_Even : PySem.W.subIn K (.ref C_Chain) (.ref C_Even) = some false)
    (s_Chain_Chain : PySem.W.subIn K (.ref C_Chain) (.ref C_Chain) = some true)
    (s_Chain_Side : PySem.W.subIn K (.ref C_Chain) (.ref C_Side) = some false)
    (s_Side_Answer : PySem.W.subIn K (.ref C_Side) (.ref C_Answer) = some true)
    (s_Side_Shared : PySem.W.subIn K (.ref C_Side) (.ref C_Shared) = some false)
    (s_Side_Crowd : PySem.W.subIn K (.ref C_Side) (.ref C_Crowd) = some false)
    (s_Side_Even : PySem.W.subIn K (.ref C_Side) (.ref C_Even) = some false)
    (s_Side_Chain : PySem.W.subIn K (.ref C_Side) (.ref C_Chain) = some false)
    (s_Side_Side : PySem.W.subIn K (.ref C_Side) (.ref C_Side) = some true)
    (hn : PySem.W.specialIn K (.builtin "object.__class__") "__get__" = some (some (.builtin "getset_descriptor.__get__"))) (ht : PySem.W.takesIn K (.builtin "object.__class__") = some true)
    {f0 : Addr} {od0 an0 : Option Addr} {sl0 : Array (Option Value)} {oc0 kV0 dc0 pm0 cd0 ct0 : Value}
    (a0 : PySem.W.nsIn K mainGlobals "is_number" = some (some (.ref f0))) (l0 : K.lookup f0 = some ⟨oc0, od0, .func (PySem.W.fnOf "is_number" "is_number" (defArgs s_is_number) (defBody s_is_number) (defScope s_is_number) .none kV0 dc0 pm0 an0 cd0 ct0), sl0⟩) (c0 : PySem.W.codeIn K cd0 "is_number" = true) (k0 : PySem.W.keepIn K (.ref f0) = true)
    {f1 : Addr} {od1 an1 : Option Addr} {sl1 : Array (Option Value)} {oc1 kV1 dc1 pm1 cd1 ct1 : Value}
    (a1 : PySem.W.nsIn K mainGlobals "is_task" = some (some (.ref f1))) (l1 : K.lookup f1 = some ⟨oc1, od1, .func (PySem.W.fnOf "is_task" "is_task" (defArgs s_is_task) (defBody s_is_task) (defScope s_is_task) .none kV1 dc1 pm1 an1 cd1 ct1), sl1⟩) (c1 : PySem.W.codeIn K cd1 "is_task" = true) (k1 : PySem.W.keepIn K (.ref f1) = true)
    {f2 : Addr} {od2 an2 : Option Addr} {sl2 : Array (Option Value)} {oc2 kV2 dc2 pm2 cd2 ct2 : Value}
    (a2 : PySem.W.nsIn K mainGlobals "check_tasks" = some (some (.ref f2))) (l2 : K.lookup f2 = some ⟨oc2, od2, .func (PySem.W.fnOf "check_tasks" "check_tasks" (defArgs s_check_tasks) (defBody s_check_tasks) (defScope s_check_tasks) .none kV2 dc2 pm2 an2 cd2 ct2), sl2⟩) (c2 : PySem.W.codeIn K cd2 "check_tasks" = true) (k2 : PySem.W.keepIn K (.ref f2) = true)
    {f3 : Addr} {od3 an3 : Option Addr} {sl3 : Array (Option Value)} {oc3 kV3 dc3 pm3 cd3 ct3 : Value}
    (a3 : PySem.W.nsIn K mainGlobals "is_sharing" = some (some (.ref f3))) (l3 : K.lookup f3 = some ⟨oc3, od3, .func (PySem.W.fnOf "is_sharing" "is_sharing" (defArgs s_is_sharing) (defBody s_is_sharing) (defScope s_is_sharing) .none kV3 dc3 pm3 an3 cd3 ct3), sl3⟩) (c3 : PySem.W.codeIn K cd3 "is_sharing" = true) (k3 : PySem.W.keepIn K (.ref f3) = true)
    {f4 : Addr} {od4 an4 : Option Addr} {sl4 : Array (Option Value)} {oc4 kV4 dc4 pm4 cd4 ct4 : Value}
    (a4 : PySem.W.nsIn K mainGlobals "check_sharing" = some (some (.ref f4))) (l4 : K.lookup f4 = some ⟨oc4, od4, .func (PySem.W.fnOf "check_sharing" "check_sharing" (defArgs s_check_sharing) (defBody s_check_sharing) (defScope s_check_sharing) .none kV4 dc4 pm4 an4 cd4 ct4), sl4⟩) (c4 : PySem.W.codeIn K cd4 "check_sharing" = true) (k4 : PySem.W.keepIn K (.ref f4) = true)
    {f5 : Addr} {od5 an5 : Option Addr} {sl5 : Array (Option Value)} {oc5 kV5 dc5 pm5 cd5 ct5 : Value}
    (a5 : PySem.W.nsIn K mainGlobals "loads_of" = some (some (.ref f5))) (l5 : K.lookup f5 = some ⟨oc5, od5, .func (PySem.W.fnOf "loads_of" "loads_of" (defArgs s_loads_of) (defBody s_loads_of) (defScope s_loads_of) .none kV5 dc5 pm5 an5 cd5 ct5), sl5⟩) (c5 : PySem.W.codeIn K cd5 "loads_of" = true) (k5 : PySem.W.keepIn K (.ref f5) = true)
    {f6 : Addr} {od6 an6 : Option Addr} {sl6 : Array (Option Value)} {oc6 kV6 dc6 pm6 cd6 ct6 : Value}
    (a6 : PySem.W.nsIn K mainGlobals "second_of" = some (some (.ref f6))) (l6 : K.lookup f6 = some ⟨oc6, od6, .func (PySem.W.fnOf "second_of" "second_of" (defArgs s_second_of) (defBody s_second_of) (defScope s_second_of) .none kV6 dc6 pm6 an6 cd6 ct6), sl6⟩) (c6 : PySem.W.codeIn K cd6 "second_of" = true) (k6 : PySem.W.keepIn K (.ref f6) = true)
    {f7 : Addr} {od7 an7 : Option Addr} {sl7 : Array (Option Value)} {oc7 kV7 dc7 pm7 cd7 ct7 : Value}
    (a7 : PySem.W.nsIn K mainGlobals "among" = some (some (.ref f7))) (l7 : K.lookup f7 = some ⟨oc7, od7, .func (PySem.W.fnOf "among" "among" (defArgs s_among) (defBody s_among) (defScope s_among) .none kV7 dc7 pm7 an7 cd7 ct7), sl7⟩) (c7 : PySem.W.codeIn K cd7 "among" = true) (k7 : PySem.W.keepIn K (.ref f7) = true)
    {f8 : Addr} {od8 an8 : Option Addr} {sl8 : Array (Option Value)} {oc8 kV8 dc8 pm8 cd8 ct8 : Value}
    (a8 : PySem.W.nsIn K mainGlobals "are_people" = some (some (.ref f8))) (l8 : K.lookup f8 = some ⟨oc8, od8, .func (PySem.W.fnOf "are_people" "are_people" (defArgs s_are_people) (defBody s_are_people) (defScope s_are_people) .none kV8 dc8 pm8 an8 cd8 ct8), sl8⟩) (c8 : PySem.W.codeIn K cd8 "are_people" = true) (k8 : PySem.W.keepIn K (.ref f8) = true)
    {f9 : Addr} {od9 an9 : Option Addr} {sl9 : Array (Option Value)} {oc9 kV9 dc9 pm9 cd9 ct9 : Value}
    (a9 : PySem.W.findIn K (.ref C_Shared) "__init__" = some (some (.ref f9))) (i9 : PySem.W.isFn K (.ref f9) = true) (l9 : K.lookup f9 = some ⟨oc9, od9, .func (PySem.W.fnOf "__init__" "Shared.__init__" (defArgs s_Shared_init) (defBody s_Shared_init) (defScope s_Shared_init) .none kV9 dc9 pm9 an9 cd9 ct9), sl9⟩) (c9 : PySem.W.codeIn K cd9 "Shared.__init__" = true) (k9 : PySem.W.keepIn K (.ref f9) = true)
    {f10 : Addr} {od10 an10 : Option Addr} {sl10 : Array (Option Value)} {oc10 kV10 dc10 pm10 cd10 ct10 : Value}
    (a10 : PySem.W.findIn K (.ref C_Shared) "shows" = some (some (.ref f10))) (i10 : PySem.W.isFn K (.ref f10) = true) (l10 : K.lookup f10 = some ⟨oc10, od10, .func (PySem.W.fnOf "shows" "Shared.shows" (defArgs s_Shared_shows) (defBody s_Shared_shows) (defScope s_Shared_shows) .none kV10 dc10 pm10 an10 cd10 ct10), sl10⟩) (c10 : PySem.W.codeIn K cd10 "Shared.shows" = true) (k10 : PySem.W.keepIn K (.ref f10) = true)
    {f11 : Addr} {od11 an11 : Option Addr} {sl11 : Array (Option Value)} {oc11 kV11 dc11 pm11 cd11 ct11 : Value}
    (a11 : PySem.W.findIn K (.ref C_Crowd) "__init__" = some (some (.ref f11))) (i11 : PySem.W.isFn K (.ref f11) = true) (l11 : K.lookup f11 = some ⟨oc11, od11, .func (PySem.W.fnOf "__init__" "Crowd.__init__" (defArgs s_Crowd_init) (defBody s_Crowd_init) (defScope s_Crowd_init) .none kV11 dc11 pm11 an11 cd11 ct11), sl11⟩) (c11 : PySem.W.codeIn K cd11 "Crowd.__init__" = true) (k11 : PySem.W.keepIn K (.ref f11) = true)
    {f12 : Addr} {od12 an12 : Option Addr} {sl12 : Array (Option Value)} {oc12 kV12 dc12 pm12 cd12 ct12 : Value}
    (a12 : PySem.W.findIn K (.ref C_Crowd) "shows" = some (some (.ref f12))) (i12 : PySem.W.isFn K (.ref f12) = true) (l12 : K.lookup f12 = some ⟨oc12, od12, .func (PySem.W.fnOf "shows" "Crowd.shows" (defArgs s_Crowd_shows) (defBody s_Crowd_shows) (defScope s_Crowd_shows) .none kV12 dc12 pm12 an12 cd12 ct12), sl12⟩) (c12 : PySem.W.codeIn K cd12 "Crowd.shows" = true) (k12 : PySem.W.keepIn K (.ref f12) = true)
    {f13 : Addr} {od13 an13 : Option Addr} {sl13 : Array (Option Value)} {oc13 kV13 dc13 pm13 cd13 ct13 : Value}
    (a13 : PySem.W.findIn K (.ref C_Even) "__init__" = some (some (.ref f13))) (i13 : PySem.W.isFn K (.ref f13) = true) (l13 : K.lookup f13 = some ⟨oc13, od13, .func (PySem.W.fnOf "__init__" "Even.__init__" (defArgs s_Even_init) (defBody s_Even_init) (defScope s_Even_init) .none kV13 dc13 pm13 an13 cd13 ct13), sl13⟩) (c13 : PySem.W.codeIn K cd13 "Even.__init__" = true) (k13 : PySem.W.keepIn K (.ref f13) = true)
    {f14 : Addr} {od14 an14 : Option Addr} {sl14 : Array (Option Value)} {oc14 kV14 dc14 pm14 cd14 ct14 : Value}
    (a14 : PySem.W.findIn K (.ref C_Even) "shows" = some (some (.ref f14))) (i14 : PySem.W.isFn K (.ref f14) = true) (l14 : K.lookup f14 = some ⟨oc14, od14, .func (PySem.W.fnOf "shows" "Even.shows" (defArgs s_Even_shows) (defBody s_Even_shows) (defScope s_Even_shows) .none kV14 dc14 pm14 an14 cd14 ct14), sl14⟩) (c14 : PySem.W.codeIn K cd14 "Even.shows" = true) (k14 : PySem.W.keepIn K (.ref f14) = true)
    {f15 : Addr} {od15 an15 : Option Addr} {sl15 : Array (Option Value)} {oc15 kV15 dc15 pm15 cd15 ct15 : Value}
    (a15 : PySem.W.findIn K (.ref C_Chain) "__init__" = some (some (.ref f15))) (i15 : PySem.W.isFn K (.ref f15) = true) (l15 : K.lookup f15 = some ⟨oc15, od15, .func (PySem.W.fnOf "__init__" "Chain.__init__" (defArgs s_Chain_init) (defBody s_Chain_init) (defScope s_Chain_init) .none kV15 dc15 pm15 an15 cd15 ct15), sl15⟩) (c15 : PySem.W.codeIn K cd15 "Chain.__init__" = true) (k15 : PySem.W.keepIn K (.ref f15) = true)
    {f16 : Addr} {od16 an16 : Option Addr} {sl16 : Array (Option Value)} {oc16 kV16 dc16 pm16 cd16 ct16 : Value}
    (a16 : PySem.W.findIn K (.ref C_Chain) "shows" = some (some (.ref f16))) (i16 : PySem.W.isFn K (.ref f16) = true) (l16 : K.lookup f16 = some ⟨oc16, od16, .func (PySem.W.fnOf "shows" "Chain.shows" (defArgs s_Chain_shows) (defBody s_Chain_shows) (defScope s_Chain_shows) .none kV16 dc16 pm16 an16 cd16 ct16), sl16⟩) (c16 : PySem.W.codeIn K cd16 "Chain.shows" = true) (k16 : PySem.W.keepIn K (.ref f16) = true)
    {f17 : Addr} {od17 an17 : Option Addr} {sl17 : Array (Option Value)} {oc17 kV17 dc17 pm17 cd17 ct17 : Value}
    (a17 : PySem.W.findIn K (.ref C_Side) "__init__" = some (some (.ref f17))) (i17 : PySem.W.isFn K (.ref f17) = true) (l17 : K.lookup f17 = some ⟨oc17, od17, .func (PySem.W.fnOf "__init__" "Side.__init__" (defArgs s_Side_init) (defBody s_Side_init) (defScope s_Side_init) .none kV17 dc17 pm17 an17 cd17 ct17), sl17⟩) (c17 : PySem.W.codeIn K cd17 "Side.__init__" = true) (k17 : PySem.W.keepIn K (.ref f17) = true)
    {f18 : Addr} {od18 an18 : Option Addr} {sl18 : Array (Option Value)} {oc18 kV18 dc18 pm18 cd18 ct18 : Value}
    (a18 : PySem.W.findIn K (.ref C_Side) "shows" = some (some (.ref f18))) (i18 : PySem.W.isFn K (.ref f18) = true) (l18 : K.lookup f18 = some ⟨oc18, od18, .func (PySem.W.fnOf "shows" "Side.shows" (defArgs s_Side_shows) (defBody s_Side_shows) (defScope s_Side_shows) .none kV18 dc18 pm18 an18 cd18 ct18), sl18⟩) (c18 : PySem.W.codeIn K cd18 "Side.shows" = true) (k18 : PySem.W.keepIn K (.ref f18) = true)
    {f19 : Addr} {od19 an19 : Option Addr} {sl19 : Array (Option Value)} {oc19 kV19 dc19 pm19 cd19 ct19 : Value}
    (a19 : PySem.W.nsIn K mainGlobals "came_from" = some (some (.ref f19))) (l19 : K.lookup f19 = some ⟨oc19, od19, .func (PySem.W.fnOf "came_from" "came_from" (defArgs s_came_from) (defBody s_came_from) (defScope s_came_from) .none kV19 dc19 pm19 an19 cd19 ct19), sl19⟩) (c19 : PySem.W.codeIn K cd19 "came_from" = true) (k19 : PySem.W.keepIn K (.ref f19) = true)
    {f20 : Addr} {od20 an20 : Option Addr} {sl20 : Array (Option Value)} {oc20 kV20 dc20 pm20 cd20 ct20 : Value}
    (a20 : PySem.W.nsIn K mainGlobals "chain_to" = some (some (.ref f20))) (l20 : K.lookup f20 = some ⟨oc20, od20, .func (PySem.W.fnOf "chain_to" "chain_to" (defArgs s_chain_to) (defBody s_chain_to) (defScope s_chain_to) .none kV20 dc20 pm20 an20 cd20 ct20), sl20⟩) (c20 : PySem.W.codeIn K cd20 "chain_to" = true) (k20 : PySem.W.keepIn K (.ref f20) = true)
    {f21 : Addr} {od21 an21 : Option Addr} {sl21 : Array (Option Value)} {oc21 kV21 dc21 pm21 cd21 ct21 : Value}
    (a21 : PySem.W.nsIn K mainGlobals "passed" = some (some (.ref f21))) (l21 : K.lookup f21 = some ⟨oc21, od21, .func (PySem.W.fnOf "passed" "passed" (defArgs s_passed) (defBody s_passed) (defScope s_passed) .none kV21 dc21 pm21 an21 cd21 ct21), sl21⟩) (c21 : PySem.W.codeIn K cd21 "passed" = true) (k21 : PySem.W.keepIn K (.ref f21) = true)
    {f22 : Addr} {od22 an22 : Option Addr} {sl22 : Array (Option Value)} {oc22 kV22 dc22 pm22 cd22 ct22 : Value}
    (a22 : PySem.W.nsIn K mainGlobals "_law_number" = some (some (.ref f22))) (l22 : K.lookup f22 = some ⟨oc22, od22, .func (PySem.W.fnOf "_law_number" "_law_number" (defArgs s__law_number) (defBody s__law_number) (defScope s__law_number) .none kV22 dc22 pm22 an22 cd22 ct22), sl22⟩) (c22 : PySem.W.codeIn K cd22 "_law_number" = true) (k22 : PySem.W.keepIn K (.ref f22) = true)
    {f23 : Addr} {od23 an23 : Option Addr} {sl23 : Array (Option Value)} {oc23 kV23 dc23 pm23 cd23 ct23 : Value}
    (a23 : PySem.W.nsIn K mainGlobals "_law_tasks" = some (some (.ref f23))) (l23 : K.lookup f23 = some ⟨oc23, od23, .func (PySem.W.fnOf "_law_tasks" "_law_tasks" (defArgs s__law_tasks) (defBody s__law_tasks) (defScope s__law_tasks) .none kV23 dc23 pm23 an23 cd23 ct23), sl23⟩) (c23 : PySem.W.codeIn K cd23 "_law_tasks" = true) (k23 : PySem.W.keepIn K (.ref f23) = true)
    {f24 : Addr} {od24 an24 : Option Addr} {sl24 : Array (Option Value)} {oc24 kV24 dc24 pm24 cd24 ct24 : Value}
    (a24 : PySem.W.nsIn K mainGlobals "_law_sharing" = some (some (.ref f24))) (l24 : K.lookup f24 = some ⟨oc24, od24, .func (PySem.W.fnOf "_law_sharing" "_law_sharing" (defArgs s__law_sharing) (defBody s__law_sharing) (defScope s__law_sharing) .none kV24 dc24 pm24 an24 cd24 ct24), sl24⟩) (c24 : PySem.W.codeIn K cd24 "_law_sharing" = true) (k24 : PySem.W.keepIn K (.ref f24) = true)
    {f25 : Addr} {od25 an25 : Option Addr} {sl25 : Array (Option Value)} {oc25 kV25 dc25 pm25 cd25 ct25 : Value}
    (a25 : PySem.W.nsIn K mainGlobals "_law_loads" = some (some (.ref f25))) (l25 : K.lookup f25 = some ⟨oc25, od25, .func (PySem.W.fnOf "_law_loads" "_law_loads" (defArgs s__law_loads) (defBody s__law_loads) (defScope s__law_loads) .none kV25 dc25 pm25 an25 cd25 ct25), sl25⟩) (c25 : PySem.W.codeIn K cd25 "_law_loads" = true) (k25 : PySem.W.keepIn K (.ref f25) = true)
    {f26 : Addr} {od26 an26 : Option Addr} {sl26 : Array (Option Value)} {oc26 kV26 dc26 pm26 cd26 ct26 : Value}
    (a26 : PySem.W.nsIn K mainGlobals "_law_wholes" = some (some (.ref f26))) (l26 : K.lookup f26 = some ⟨oc26, od26, .func (PySem.W.fnOf "_law_wholes" "_law_wholes" (defArgs s__law_wholes) (defBody s__law_wholes) (defScope s__law_wholes) .none kV26 dc26 pm26 an26 cd26 ct26), sl26⟩) (c26 : PySem.W.codeIn K cd26 "_law_wholes" = true) (k26 : PySem.W.keepIn K (.ref f26) = true)
    {f27 : Addr} {od27 an27 : Option Addr} {sl27 : Array (Option Value)} {oc27 kV27 dc27 pm27 cd27 ct27 : Value}
    (a27 : PySem.W.nsIn K mainGlobals "_law_people" = some (some (.ref f27))) (l27 : K.lookup f27 = some ⟨oc27, od27, .func (PySem.W.fnOf "_law_people" "_law_people" (defArgs s__law_people) (defBody s__law_people) (defScope s__law_people) .none kV27 dc27 pm27 an27 cd27 ct27), sl27⟩) (c27 : PySem.W.codeIn K cd27 "_law_people" = true) (k27 : PySem.W.keepIn K (.ref f27) = true)
    {f28 : Addr} {od28 an28 : Option Addr} {sl28 : Array (Option Value)} {oc28 kV28 dc28 pm28 cd28 ct28 : Value}
    (a28 : PySem.W.nsIn K mainGlobals "_law_second" = some (some (.ref f28))) (l28 : K.lookup f28 = some ⟨oc28, od28, .func (PySem.W.fnOf "_law_second" "_law_second" (defArgs s__law_second) (defBody s__law_second) (defScope s__law_second) .none kV28 dc28 pm28 an28 cd28 ct28), sl28⟩) (c28 : PySem.W.codeIn K cd28 "_law_second" = true) (k28 : PySem.W.keepIn K (.ref f28) = true)
    {f29 : Addr} {od29 an29 : Option Addr} {sl29 : Array (Option Value)} {oc29 kV29 dc29 pm29 cd29 ct29 : Value}
    (a29 : PySem.W.nsIn K mainGlobals "_law_due" = some (some (.ref f29))) (l29 : K.lookup f29 = some ⟨oc29, od29, .func (PySem.W.fnOf "_law_due" "_law_due" (defArgs s__law_due) (defBody s__law_due) (defScope s__law_due) .none kV29 dc29 pm29 an29 cd29 ct29), sl29⟩) (c29 : PySem.W.codeIn K cd29 "_law_due" = true) (k29 : PySem.W.keepIn K (.ref f29) = true)
    {f30 : Addr} {od30 an30 : Option Addr} {sl30 : Array (Option Value)} {oc30 kV30 dc30 pm30 cd30 ct30 : Value}
    (a30 : PySem.W.nsIn K mainGlobals "_law_leads" = some (some (.ref f30))) (l30 : K.lookup f30 = some ⟨oc30, od30, .func (PySem.W.fnOf "_law_leads" "_law_leads" (defArgs s__law_leads) (defBody s__law_leads) (defScope s__law_leads) .none kV30 dc30 pm30 an30 cd30 ct30), sl30⟩) (c30 : PySem.W.codeIn K cd30 "_law_leads" = true) (k30 : PySem.W.keepIn K (.ref f30) = true)
    {f31 : Addr} {od31 an31 : Option Addr} {sl31 : Array (Option Value)} {oc31 kV31 dc31 pm31 cd31 ct31 : Value}
    (a31 : PySem.W.nsIn K mainGlobals "_law_right" = some (some (.ref f31))) (l31 : K.lookup f31 = some ⟨oc31, od31, .func (PySem.W.fnOf "_law_right" "_law_right" (defArgs s__law_right) (defBody s__law_right) (defScope s__law_right) .none kV31 dc31 pm31 an31 cd31 ct31), sl31⟩) (c31 : PySem.W.codeIn K cd31 "_law_right" = true) (k31 : PySem.W.keepIn K (.ref f31) = true)
    {f32 : Addr} {od32 an32 : Option Addr} {sl32 : Array (Option Value)} {oc32 kV32 dc32 pm32 cd32 ct32 : Value}
    (a32 : PySem.W.nsIn K mainGlobals "law" = some (some (.ref f32))) (l32 : K.lookup f32 = some ⟨oc32, od32, .func (PySem.W.fnOf "law" "law" (defArgs s_law) (defBody s_law) (defScope s_law) .none kV32 dc32 pm32 an32 cd32 ct32), sl32⟩) (c32 : PySem.W.codeIn K cd32 "law" = true) (k32 : PySem.W.keepIn K (.ref f32) = true)
 (z_len : PySem.W.nsIn K mainGlobals "len" = some none) (z_isinstance : PySem.W.nsIn K mainGlobals "isinstance" = some none) (z_int : PySem.W.nsIn K mainGlobals "int" = some none) (z_bool : PySem.W.nsIn K mainGlobals "bool" = some none) (z_list : PySem.W.nsIn K mainGlobals "list" = some none) (z_tuple : PySem.W.nsIn K mainGlobals "tuple" = some none) (z_all : PySem.W.nsIn K mainGlobals "all" = some none) (z_any : PySem.W.nsIn K mainGlobals "any" = some none) (z_sum : PySem.W.nsIn K mainGlobals "sum" = some none) (z_max : PySem.W.nsIn K mainGlobals "max" = some none) (z_min : PySem.W.nsIn K mainGlobals "min" = some none) (z_sorted : PySem.W.nsIn K mainGlobals "sorted" = some none) (z_set : PySem.W.nsIn K mainGlobals "set" = some none) (z_range : PySem.W.nsIn K mainGlobals "range" = some none) (z_enumerate : PySem.W.nsIn K mainGlobals "enumerate" = some none) (z_zip : PySem.W.nsIn K mainGlobals "zip" = some none) (z_abs : PySem.W.nsIn K mainGlobals "abs" = some none) (z_str : PySem.W.nsIn K mainGlobals "str" = some none)
    {tM : _} (zM : PySem.W.nsIn K mainGlobals "MOST" = some (some (.int 60 tM))) :
    ∃ fd : FuncData, (∀ (s : PySem.Shared) (v : Value), BindsTo s fd ⟨[v], []⟩ [("_law_script", v)]) ∧ ∀ base : Heap, K.In base → base.Ns mainGlobals mg → FnOk l.prog w K mg base CX0 6 fa fd ["_law_script"] (lawSp i_law K) := by
  have e := hfa.symm.trans (PySem.W.mg_of X G a32)
  cases e
  have B : Bt mg := ⟨PySem.W.mg_none_of X G z_len, PySem.W.mg_none_of X G z_isinstance, PySem.W.mg_none_of X G z_int, PySem.W.mg_none_of X G z_bool, PySem.W.mg_none_of X G z_list, PySem.W.mg_none_of X G z_tuple, PySem.W.mg_none_of X G z_all, PySem.W.mg_none_of X G z_any, PySem.W.mg_none_of X G z_sum, PySem.W.mg_none_of X G z_max, PySem.W.mg_none_of X G z_min, PySem.W.mg_none_of X G z_sorted, PySem.W.mg_none_of X G z_set, PySem.W.mg_none_of X G z_range, PySem.W.mg_none_of X G z_enumerate, PySem.W.mg_none_of X G z_zip, PySem.W.mg_none_of X G z_abs, PySem.W.mg_none_of X G z_str⟩
  have e_Answer := gam_of a_Answer
  subst e_Answer
  have e_Shared := gam_of a_Shared
  subst e_Shared
  have e_Crowd := gam_of a_Crowd
  subst e_Crowd
  have e_Even := gam_of a_Even
  subst e_Even
  have e_Chain := gam_of a_Chain
  subst e_Chain
  have e_Side := gam_of a_Side
  subst e_Side
  have CL : ∀ (aA : Addr) (nS : List Int), Cl ⟨gam K, K, aA, nS⟩ := fun aA nS => ⟨cls_all ⟨pg_Answer, hd_Answer, po_Answer, sa_Answer⟩ ⟨pg_Shared, hd_Shared, po_Shared, sa_Shared⟩ ⟨pg_Crowd, hd_Crowd, po_Crowd, sa_Crowd⟩ ⟨pg_Even, hd_Even, po_Even, sa_Even⟩ ⟨pg_Chain, hd_Chain, po_Chain, sa_Chain⟩ ⟨pg_Side, hd_Side, po_Side, sa_Side⟩,
    cls_all (cls_all (sub_of (kit_sub cq_Answer ty_Answer s_Answer_Answer s_Answer_Answer) (by decide +kernel)) (sub_of (kit_sub cq_Shared ty_Shared s_Shared_Shared s_Answer_Shared) (by decide +kernel)) (sub_of (kit_sub cq_Crowd ty_Crowd s_Crowd_Crowd s_Answer_Crowd) (by decide +kernel)) (sub_of (kit_sub cq_Even ty_Even s_Even_Even s_Answer_Even) (by decide +kernel)) (sub_of (kit_sub cq_Chain ty_Chain s_Chain_Chain s_Answer_Chain) (by decide +kernel)) (sub_of (kit_sub cq_Side ty_Side s_Side_Side s_Answer_Side) (by decide +kernel)))
      (cls_all (sub_of (kit_sub cq_Answer ty_Answer s_Answer_Answer s_Shared_Answer) (by decide +kernel)) (sub_of (kit_sub cq_Shared ty_Shared s_Shared_Shared s_Shared_Shared) (by decide +kernel)) (sub_of (kit_sub cq_Crowd ty_Crowd s_Crowd_Crowd s_Shared_Crowd) (by decide +kernel)) (sub_of (kit_sub cq_Even ty_Even s_Even_Even s_Shared_Even) (by decide +kernel)) (sub_of (kit_sub cq_Chain ty_Chain s_Chain_Chain s_Shared_Chain) (by decide +kernel)) (sub_of (kit_sub cq_Side ty_Side s_Side_Side s_Shared_Side) (by decide +kernel)))
      (cls_all (sub_of (kit_sub cq_Answer ty_Answer s_Answer_Answer s_Crowd_Answer) (by decide +kernel)) (sub_of (kit_sub cq_Shared ty_Shared s_Shared_Shared s_Crowd_Shared) (by decide +kernel)) (sub_of (kit_sub cq_Crowd ty_Crowd s_Crowd_Crowd s_Crowd_Crowd) (by decide +kernel)) (sub_of (kit_sub cq_Even ty_Even s_Even_Even s_Crowd_Even) (by decide +kernel)) (sub_of (kit_sub cq_Chain ty_Chain s_Chain_Chain s_Crowd_Chain) (by decide +kernel)) (sub_of (kit_sub cq_Side ty_Side s_Side_Side s_Crowd_Side) (by decide +kernel)))
      (cls_all (sub_of (kit_sub cq_Answer ty_Answer s_Answer_Answer s_Even_Answer) (by decide +kernel)) (sub_of (kit_sub cq_Shared ty_Shared s_Shared_Shared s_Even_Shared) (by decide +kernel)) (sub_of (kit_sub cq_Crowd ty_Crowd s_Crowd_Crowd s_Even_Crowd) (by decide +kernel)) (sub_of (kit_sub cq_Even ty_Even s_Even_Even s_Even_Even) (by decide +kernel)) (sub_of (kit_sub cq_Chain ty_Chain s_Chain_Chain s_Even_Chain) (by decide +kernel)) (sub_of (kit_sub cq_Side ty_Side s_Side_Side s_Even_Side) (by decide +kernel)))
      (cls_all (sub_of (kit_sub cq_Answer ty_Answer s_Answer_Answer s_Chain_Answer) (by decide +kernel)) (sub_of (kit_sub cq_Shared ty_Shared s_Shared_Shared s_Chain_Shared) (by decide +kernel)) (sub_of (kit_sub cq_Crowd ty_Crowd s_Crowd_Crowd s_Chain_Crowd) (by decide +kernel)) (sub_of (kit_sub cq_Even ty_Even s_Even_Even s_Chain_Even) (by decide +kernel)) (sub_of (kit_sub cq_Chain ty_Chain s_Chain_Chain s_Chain_Chain) (by decide +kernel)) (sub_of (kit_sub cq_Side ty_Side s_Side_Side s_Chain_Side) (by decide +kernel)))
      (cls_all (sub_of (kit_sub cq_Answer ty_Answer s_Answer_Answer s_Side_Answer) (by decide +kernel)) (sub_of (kit_sub cq_Shared ty_Shared s_Shared_Shared s_Side_Shared) (by decide +kernel)) (sub_of (kit_sub cq_Crowd ty_Crowd s_Crowd_Crowd s_Side_Crowd) (by decide +kernel)) (sub_of (kit_sub cq_Even ty_Even s_Even_Even s_Side_Even) (by decide +kernel)) (sub_of (kit_sub cq_Chain ty_Chain s_Chain_Chain s_Side_Chain) (by decide +kernel)) (sub_of (kit_sub cq_Side ty_Side s_Side_Side s_Side_Side) (by decide +kernel))),
    cls_all hc_Answer hc_Shared hc_Crowd hc_Even hc_Chain hc_Side, hn, ht, cls_all hm_Answer hm_Shared hm_Crowd hm_Even hm_Chain hm_Side⟩
  have F0 := fun_mk (st := s_is_number) l0 c0 k0
  have b0 := F0.binds (ps := ["thing", "least"]) fun _ _ _ _ _ _ us hl => match us, hl with | [_, _], _ => rfl
  have F1 := fun_mk (st := s_is_task) l1 c1 k1
  have b1 := F1.binds (ps := ["thing", "people"]) fun _ _ _ _ _ _ us hl => match us, hl with | [_, _], _ => rfl
  have F2 := fun_mk (st := s_check_tasks) l2 c2 k2
  have b2 := F2.binds (ps := ["people", "tasks"]) fun _ _ _ _ _ _ us hl => match us, hl with | [_, _], _ => rfl
  have F3 := fun_mk (st := s_is_sharing) l3 c3 k3
  have b3 := F3.binds (ps := ["tasks", "sharing"]) fun _ _ _ _ _ _ us hl => match us, hl with | [_, _], _ => rfl
  have F4 := fun_mk (st := s_check_sharing) l4 c4 k4
  have b4 := F4.binds (ps := ["tasks", "sharing"]) fun _ _ _ _ _ _ us hl => match us, hl with | [_, _], _ => rfl
  have F5 := fun_mk (st := s_loads_of) l5 c5 k5
  have b5 := F5.binds (ps := ["people", "sharing"]) fun _ _ _ _ _ _ us hl => match us, hl with | [_, _], _ => rfl
  have F6 := fun_mk (st := s_second_of) l6 c6 k6
  have b6 := F6.binds (ps := ["task", "who"]) fun _ _ _ _ _ _ us hl => match us, hl with | [_, _], _ => rfl
  have F7 := fun_mk (st := s_among) l7 c7 k7
  have b7 := F7.binds (ps := ["tasks", "some"]) fun _ _ _ _ _ _ us hl => match us, hl with | [_, _], _ => rfl
  have F8 := fun_mk (st := s_are_people) l8 c8 k8
  have b8 := F8.binds (ps := ["some", "people"]) fun _ _ _ _ _ _ us hl => match us, hl with | [_, _], _ => rfl
  have F9 := fun_mk (st := s_Shared_init) l9 c9 k9
  have b9 := F9.binds (ps := ["self", "sharing"]) fun _ _ _ _ _ _ us hl => match us, hl with | [_, _], _ => rfl
  have F10 := fun_mk (st := s_Shared_shows) l10 c10 k10
  have b10 := F10.binds (ps := ["self", "people", "tasks", "limits"]) fun _ _ _ _ _ _ us hl => match us, hl with | [_, _, _, _], _ => rfl
  have F11 := fun_mk (st := s_Crowd_init) l11 c11 k11
  have b11 := F11.binds (ps := ["self", "some"]) fun _ _ _ _ _ _ us hl => match us, hl with | [_, _], _ => rfl
  have F12 := fun_mk (st := s_Crowd_shows) l12 c12 k12
  have b12 := F12.binds (ps := ["self", "people", "tasks", "limits"]) fun _ _ _ _ _ _ us hl => match us, hl with | [_, _, _, _], _ => rfl
  have F13 := fun_mk (st := s_Even_init) l13 c13 k13
  have b13 := F13.binds (ps := ["self", "sharing", "some"]) fun _ _ _ _ _ _ us hl => match us, hl with | [_, _, _], _ => rfl
  have F14 := fun_mk (st := s_Even_shows) l14 c14 k14
  have b14 := F14.binds (ps := ["self", "people", "tasks"]) fun _ _ _ _ _ _ us hl => match us, hl with | [_, _, _], _ => rfl
  have F15 := fun_mk (st := s_Chain_init) l15 c15 k15
  have b15 := F15.binds (ps := ["self", "tasks"]) fun _ _ _ _ _ _ us hl => match us, hl with | [_, _], _ => rfl
  have F16 := fun_mk (st := s_Chain_shows) l16 c16 k16
  have b16 := F16.binds (ps := ["self", "people", "tasks", "sharing", "one", "other"]) fun _ _ _ _ _ _ us hl => match us, hl with | [_, _, _, _, _, _], _ => rfl
  have F17 := fun_mk (st := s_Side_init) l17 c17 k17
  have b17 := F17.binds (ps := ["self", "some"]) fun _ _ _ _ _ _ us hl => match us, hl with | [_, _], _ => rfl
  have F18 := fun_mk (st := s_Side_shows) l18 c18 k18
  have b18 := F18.binds (ps := ["self", "people", "tasks", "sharing", "one", "other"]) fun _ _ _ _ _ _ us hl => match us, hl with | [_, _, _, _, _, _], _ => rfl
  have F19 := fun_mk (st := s_came_from) l19 c19 k19
  have b19 := F19.binds (ps := ["tasks", "sharing", "begins"]) fun _ _ _ _ _ _ us hl => match us, hl with | [_, _, _], _ => rfl
  have F20 := fun_mk (st := s_chain_to) l20 c20 k20
  have b20 := F20.binds (ps := ["tasks", "came", "person"]) fun _ _ _ _ _ _ us hl => match us, hl with | [_, _, _], _ => rfl
  have F21 := fun_mk (st := s_passed) l21 c21 k21
  have b21 := F21.binds (ps := ["people", "tasks", "sharing", "one", "other"]) fun _ _ _ _ _ _ us hl => match us, hl with | [_, _, _, _, _], _ => rfl
  have F22 := fun_mk (st := s__law_number) l22 c22 k22
  have b22 := F22.binds (ps := ["_law_cell", "_law_at", "_law_whole"]) fun _ _ _ _ _ _ us hl => match us, hl with | [_, _, _], _ => rfl
  have F23 := fun_mk (st := s__law_tasks) l23 c23 k23
  have b23 := F23.binds (ps := ["_law_script"]) fun _ _ _ _ _ _ us hl => match us, hl with | [_], _ => rfl
  have F24 := fun_mk (st := s__law_sharing) l24 c24 k24
  have b24 := F24.binds (ps := ["_law_script", "_law_tasks_here", "_law_by"]) fun _ _ _ _ _ _ us hl => match us, hl with | [_, _, _], _ => rfl
  have F25 := fun_mk (st := s__law_loads) l25 c25 k25
  have b25 := F25.binds (ps := ["_law_people_here", "_law_sharing_here"]) fun _ _ _ _ _ _ us hl => match us, hl with | [_, _], _ => rfl
  have F26 := fun_mk (st := s__law_wholes) l26 c26 k26
  have b26 := F26.binds (ps := ["_law_found"]) fun _ _ _ _ _ _ us hl => match us, hl with | [_], _ => rfl
  have F27 := fun_mk (st := s__law_people) l27 c27 k27
  have b27 := F27.binds (ps := ["_law_some", "_law_people_here"]) fun _ _ _ _ _ _ us hl => match us, hl with | [_, _], _ => rfl
  have F28 := fun_mk (st := s__law_second) l28 c28 k28
  have b28 := F28.binds (ps := ["_law_task", "_law_who"]) fun _ _ _ _ _ _ us hl => match us, hl with | [_, _], _ => rfl
  have F29 := fun_mk (st := s__law_due) l29 c29 k29
  have b29 := F29.binds (ps := ["_law_people_here", "_law_tasks_here", "_law_sharing_here", "_law_ends", "_law_found"]) fun _ _ _ _ _ _ us hl => match us, hl with | [_, _, _, _, _], _ => rfl
  have F30 := fun_mk (st := s__law_leads) l30 c30 k30
  have b30 := F30.binds (ps := ["_law_tasks_here", "_law_sharing_here", "_law_ends"]) fun _ _ _ _ _ _ us hl => match us, hl with | [_, _, _], _ => rfl
  have F31 := fun_mk (st := s__law_right) l31 c31 k31
  have b31 := F31.binds (ps := ["_law_people_here", "_law_tasks_here", "_law_sharing_here", "_law_ends", "_law_others"]) fun _ _ _ _ _ _ us hl => match us, hl with | [_, _, _, _, _], _ => rfl
  have F32 := fun_mk (st := s_law) l32 c32 k32
  refine ⟨_, fun s v => .of_eq rfl, fun base _ _ => fnok_ex fun aA nS => chain (g := ⟨gam K, K, aA, nS⟩) ⟨B, ⟨_, PySem.W.mg_of X G zM⟩, CL aA nS, cls_all na_sharing_Answer na_sharing_Shared na_sharing_Crowd na_sharing_Even na_sharing_Chain na_sharing_Side, cls_all na_some_Answer na_some_Shared na_some_Crowd na_some_Even na_some_Chain na_some_Side, cls_all na_tasks_Answer na_tasks_Shared na_tasks_Crowd na_tasks_Even na_tasks_Chain na_tasks_Side, PySem.W.mg_of X G a_Answer, PySem.W.mg_of X G a_Shared, PySem.W.mg_of X G a_Crowd, PySem.W.mg_of X G a_Even, PySem.W.mg_of X G a_Chain, PySem.W.mg_of X G a_Side⟩ F0 (PySem.W.mg_of X G a0) b0 F1 (PySem.W.mg_of X G a1) b1 F2 (PySem.W.mg_of X G a2) b2 F3 (PySem.W.mg_of X G a3) b3 F4 (PySem.W.mg_of X G a4) b4 F5 (PySem.W.mg_of X G a5) b5 F6 (PySem.W.mg_of X G a6) b6 F7 (PySem.W.mg_of X G a7) b7 F8 (PySem.W.mg_of X G a8) b8 F9 ⟨mk_Shared, a9, i9, kc_Shared⟩ b9 F10 ⟨a10, i10, k10⟩ b10 F11 ⟨mk_Crowd, a11, i11, kc_Crowd⟩ b11 F12 ⟨a12, i12, k12⟩ b12 F13 ⟨mk_Even, a13, i13, kc_Even⟩ b13 F14 ⟨a14, i14, k14⟩ b14 F15 ⟨mk_Chain, a15, i15, kc_Chain⟩ b15 F16 ⟨a16, i16, k16⟩ b16 F17 ⟨mk_Side, a17, i17, kc_Side⟩ b17 F18 ⟨a18, i18, k18⟩ b18 F19 (PySem.W.mg_of X G a19) b19 F20 (PySem.W.mg_of X G a20) b20 F21 (PySem.W.mg_of X G a21) b21 F22 (PySem.W.mg_of X G a22) b22 F23 (PySem.W.mg_of X G a23) b23 F24 (PySem.W.mg_of X G a24) b24 F25 (PySem.W.mg_of X G a25) b25 F26 (PySem.W.mg_of X G a26) b26 F27 (PySem.W.mg_of X G a27) b27 F28 (PySem.W.mg_of X G a28) b28 F29 (PySem.W.mg_of X G a29) b29 F30 (PySem.W.mg_of X G a30) b30 F31 (PySem.W.mg_of X G a31) b31 F32⟩

theorem walk {l : PySem.W.OpenLaw} {q : Program} {loose : List Str} {XP : (Str → Option Value) → Heap → Prop} {YP : World → Heap → Prop} {d : DefRec} {K : Params → PySem.W.Frag} (hn : l.most = some 63) (hdf : d.params.defaults = [])
    (hY : ∀ (w : World) (h : Heap), YP w h → (K w.params).In h)
    (F : ∀ (w : World) (mg : Str → Option Value) (fa : Addr) (h : Heap), (K w.params).In h → h.Ns mainGlobals mg → mg d.name = some (.ref fa) →
      ∃ fd : FuncData, (∀ (s : PySem.Shared) (u : Value), BindsTo s fd ⟨[u], []⟩ [("_law_script", u)]) ∧ ∀ base : Heap, (K w.params).In base → base.Ns mainGlobals mg → FnOk l.prog w (K w.params) mg base CX0 6 fa fd ["_law_script"] (lawSp i_law (K w.params))) :
    PySem.W.WalkO q loose XP YP l.row.toRowW d [] (fun f vs => PySem.call f vs) :=
  L2.walk_ofB (n := 63) (k := 6) (x := "_law_script") (CX := fun _ => CX0) (sp := fun w => lawSp i_law (K w.params)) hn (by decide) hdf ⟨rfl, by decide, by decide⟩ hY F (fun _ _ a ns hl hb hO hS => law_sp (law_true3 hl hb) hO hS) fun _ _ _ _ _ z => z

end
end IL
open PySem PySem.W PyProof.Rows in
set_option maxRecDepth 100000 in
set_option maxHeartbeats 0 in
theorem PySem.Challenge.cw_eitherdoes_k03_whole_passed_holds : PySem.Challenge.rw_eitherdoes_k03_whole_passed.Holds := by
  w_on; o_law; k_head; (case hw => w_witness2)
  k_fill
  refine IL.walk (l := PySem.Challenge.rw_eitherdoes_k03_whole_passed) rfl rfl (fun w h Y => PySem.W.kIn_of Y) ?F
  case F =>
    intro w mg fa h KX G hmg
    refine' IL.all_mk KX G hmg ?a_Answer ?cq_Answer ?pg_Answer ?hd_Answer ?po_Answer ?sa_Answer ?hc_Answer ?hm_Answer ?ty_Answer ?na_sharing_Answer ?na_some_Answer ?na_tasks_Answer ?a_Shared ?cq_Shared ?pg_Shared ?hd_Shared ?po_Shared ?sa_Shared ?hc_Shared ?hm_Shared ?ty_Shared ?na_sharing_Shared ?na_some_Shared ?na_tasks_Shared ?mk_Shared ?kc_Shared ?a_Crowd ?cq_Crowd ?pg_Crowd ?hd_Crowd ?po_Crowd ?sa_Crowd ?hc_Crowd ?hm_Crowd ?ty_Crowd ?na_sharing_Crowd ?na_some_Crowd ?na_tasks_Crowd ?mk_Crowd ?kc_Crowd ?a_Even ?cq_Even ?pg_Even ?hd_Even ?po_Even ?sa_Even ?hc_Even ?hm_Even ?ty_Even ?na_sharing_Even ?na_some_Even ?na_tasks_Even ?mk_Even ?kc_Even ?a_Chain ?cq_Chain ?pg_Chain ?hd_Chain ?po_Chain ?sa_Chain ?hc_Chain ?hm_Chain ?ty_Chain ?na_sharing_Chain ?na_some_Chain ?na_tasks_Chain ?mk_Chain ?kc_Chain ?a_Side ?cq_Side ?pg_Side ?hd_Side ?po_Side ?sa_Side ?hc_Side ?hm_Side ?ty_Side ?na_sharing_Side ?na_some_Side ?na_tasks_Side ?mk_Side ?kc_Side ?s_Answer_Answer ?s_Answer_Shared ?s_Answer_Crowd ?s_Answer_Even ?s_Answer_Chain ?s_Answer_Side ?s_Shared_Answer ?s_Shared_Shared ?s_Shared_Crowd ?s_Shared_Even ?s_Shared_Chain ?s_Shared_Side ?s_Crowd_Answer ?s_Crowd_Shared ?s_Crowd_Crowd ?s_Crowd_Even ?s_Crowd_Chain ?s_Crowd_Side ?s_Even_Answer ?s_Even_Shared ?s_Even_Crowd ?s_Even_Even ?s_Even_Chain ?s_Even_Side ?s_Chain_Answer ?s_Chain_Shared ?s_Chain_Crowd ?s_Chain_Even ?s_Chain_Chain ?s_Chain_Side ?s_Side_Answer ?s_Side_Shared ?s_Side_Crowd ?s_Side_Even ?s_Side_Chain ?s_Side_Side ?hn ?ht ?a0 ?l0 ?c0 ?k0 ?a1 ?l1 ?c1 ?k1 ?a2 ?l2 ?c2 ?k2 ?a3 ?l3 ?c3 ?k3 ?a4 ?l4 ?c4 ?k4 ?a5 ?l5 ?c5 ?k5 ?a6 ?l6 ?c6 ?k6 ?a7 ?l7 ?c7 ?k7 ?a8 ?l8 ?c8 ?k8 ?a9 ?i9 ?l9 ?c9 ?k9 ?a10 ?i10 ?l10 ?c10 ?k10 ?a11 ?i11 ?l11 ?c11 ?k11 ?a12 ?i12 ?l12 ?c12 ?k12 ?a13 ?i13 ?l13 ?c13 ?k13 ?a14 ?i14 ?l14 ?c14 ?k14 ?a15 ?i15 ?l15 ?c15 ?k15 ?a16 ?i16 ?l16 ?c16 ?k16 ?a17 ?i17 ?l17 ?c17 ?k17 ?a18 ?i18 ?l18 ?c18 ?k18 ?a19 ?l19 ?c19 ?k19 ?a20 ?l20 ?c20 ?k20 ?a21 ?l21 ?c21 ?k21 ?a22 ?l22 ?c22 ?k22 ?a23 ?l23 ?c23 ?k23 ?a24 ?l24 ?c24 ?k24 ?a25 ?l25 ?c25 ?k25 ?a26 ?l26 ?c26 ?k26 ?a27 ?l27 ?c27 ?k27 ?a28 ?l28 ?c28 ?k28 ?a29 ?l29 ?c29 ?k29 ?a30 ?l30 ?c30 ?k30 ?a31 ?l31 ?c31 ?k31 ?a32 ?l32 ?c32 ?k32 ?z_len ?z_isinstance ?z_int ?z_bool ?z_list ?z_tuple ?z_all ?z_any ?z_sum ?z_max ?z_min ?z_sorted ?z_set ?z_range ?z_enumerate ?z_zip ?z_abs ?z_str ?zM
    (case a_Answer => k_is)
    (case cq_Answer => k_is)
    (case pg_Answer => k_is)
    (case hd_Answer => k_is)
    (case po_Answer => k_is)
    (case sa_Answer => k_is)
    (case hc_Answer => k_is)
    (case hm_Answer => k_is)
    (case ty_Answer => k_is)
    (case na_sharing_Answer => k_is)
    (case na_some_Answer => k_is)
    (case na_tasks_Answer => k_is)
    (case a_Shared => k_is)
    (case cq_Shared => k_is)
    (case pg_Shared => k_is)
    (case hd_Shared => k_is)
    (case po_Shared => k_is)
    (case sa_Shared => k_is)
    (case hc_Shared => k_is)
    (case hm_Shared => k_is)
    (case ty_Shared => k_is)
    (case na_sharing_Shared => k_is)
    (case na_some_Shared => k_is)
    (case na_tasks_Shared => k_is)
    (case mk_Shared => k_is)
    (case kc_Shared => k_is)
    (case a_Crowd => k_is)
    (case cq_Crowd => k_is)
    (case pg_Crowd => k_is)
    (case hd_Crowd => k_is)
    (case po_Crowd => k_is)
    (case sa_Crowd => k_is)
    (case hc_Crowd => k_is)
    (case hm_Crowd => k_is)
    (case ty_Crowd => k_is)
    (case na_sharing_Crowd => k_is)
    (case na_some_Crowd => k_is)
    (case na_tasks_Crowd => k_is)
    (case mk_Crowd => k_is)
    (case kc_Crowd => k_is)
    (case a_Even => k_is)
    (case cq_Even => k_is)
    (case pg_Even => k_is)
    (case hd_Even => k_is)
    (case po_Even => k_is)
    (case sa_Even => k_is)
    (case hc_Even => k_is)
    (case hm_Even => k_is)
    (case ty_Even => k_is)
    (case na_sharing_Even => k_is)
    (case na_some_Even => k_is)
    (case na_tasks_Even => k_is)
    (case mk_Even => k_is)
    (case kc_Even => k_is)
    (case a_Chain => k_is)
    (case cq_Chain => k_is)
    (case pg_Chain => k_is)
    (case hd_Chain => k_is)
    (case po_Chain => k_is)
    (case sa_Chain => k_is)
    (case hc_Chain => k_is)
    (case hm_Chain => k_is)
    (case ty_Chain => k_is)
    (case na_sharing_Chain => k_is)
    (case na_some_Chain => k_is)
    (case na_tasks_Chain => k_is)
    (case mk_Chain => k_is)
    (case kc_Chain => k_is)
    (case a_Side => k_is)
    (case cq_Side => k_is)
    (case pg_Side => k_is)
    (case hd_Side => k_is)
    (case po_Side => k_is)
    (case sa_Side => k_is)
    (case hc_Side => k_is)
    (case hm_Side => k_is)
    (case ty_Side => k_is)
    (case na_sharing_Side => k_is)
    (case na_some_Side => k_is)
    (case na_tasks_Side => k_is)
    (case mk_Side => k_is)
    (case kc_Side => k_is)
    (case s_Answer_Answer => k_is)
    (case s_Answer_Shared => k_is)
    (case s_Answer_Crowd => k_is)
    (case s_Answer_Even => k_is)
    (case s_Answer_Chain => k_is)
    (case s_Answer_Side => k_is)
    (case s_Shared_Answer => k_is)
    (case s_Shared_Shared => k_is)
    (case s_Shared_Crowd => k_is)
    (case s_Shared_Even => k_is)
    (case s_Shared_Chain => k_is)
    (case s_Shared_Side => k_is)
    (case s_Crowd_Answer => k_is)
    (case s_Crowd_Shared => k_is)
    (case s_Crowd_Crowd => k_is)
    (case s_Crowd_Even => k_is)
    (case s_Crowd_Chain => k_is)
    (case s_Crowd_Side => k_is)
    (case s_Even_Answer => k_is)
    (case s_Even_Shared => k_is)
    (case s_Even_Crowd => k_is)
    (case s_Even_Even => k_is)
    (case s_Even_Chain => k_is)
    (case s_Even_Side => k_is)
    (case s_Chain_Answer => k_is)
    (case s_Chain_Shared => k_is)
    (case s_Chain_Crowd => k_is)
    (case s_Chain_Even => k_is)
    (case s_Chain_Chain => k_is)
    (case s_Chain_Side => k_is)
    (case s_Side_Answer => k_is)
    (case s_Side_Shared => k_is)
    (case s_Side_Crowd => k_is)
    (case s_Side_Even => k_is)
    (case s_Side_Chain => k_is)
    (case s_Side_Side => k_is)
    (case hn => k_is)
    (case ht => k_is)
    (case a0 => k_is)
    (case l0 => k_is)
    (case c0 => k_is)
    (case k0 => k_is)
    (case a1 => k_is)
    (case l1 => k_is)
    (case c1 => k_is)
    (case k1 => k_is)
    (case a2 => k_is)
    (case l2 => k_is)
    (case c2 => k_is)
    (case k2 => k_is)
    (case a3 => k_is)
    (case l3 => k_is)
    (case c3 => k_is)
    (case k3 => k_is)
    (case a4 => k_is)
    (case l4 => k_is)
    (case c4 => k_is)
    (case k4 => k_is)
    (case a5 => k_is)
    (case l5 => k_is)
    (case c5 => k_is)
    (case k5 => k_is)
    (case a6 => k_is)
    (case l6 => k_is)
    (case c6 => k_is)
    (case k6 => k_is)
    (case a7 => k_is)
    (case l7 => k_is)
    (case c7 => k_is)
    (case k7 => k_is)
    (case a8 => k_is)
    (case l8 => k_is)
    (case c8 => k_is)
    (case k8 => k_is)
    (case a9 => k_is)
    (case i9 => k_is)
    (case l9 => k_is)
    (case c9 => k_is)
    (case k9 => k_is)
    (case a10 => k_is)
    (case i10 => k_is)
    (case l10 => k_is)
    (case c10 => k_is)
    (case k10 => k_is)
    (case a11 => k_is)
    (case i11 => k_is)
    (case l11 => k_is)
    (case c11 => k_is)
    (case k11 => k_is)
    (case a12 => k_is)
    (case i12 => k_is)
    (case l12 => k_is)
    (case c12 => k_is)
    (case k12 => k_is)
    (case a13 => k_is)
    (case i13 => k_is)
    (case l13 => k_is)
    (case c13 => k_is)
    (case k13 => k_is)
    (case a14 => k_is)
    (case i14 => k_is)
    (case l14 => k_is)
    (case c14 => k_is)
    (case k14 => k_is)
    (case a15 => k_is)
    (case i15 => k_is)
    (case l15 => k_is)
    (case c15 => k_is)
    (case k15 => k_is)
    (case a16 => k_is)
    (case i16 => k_is)
    (case l16 => k_is)
    (case c16 => k_is)
    (case k16 => k_is)
    (case a17 => k_is)
    (case i17 => k_is)
    (case l17 => k_is)
    (case c17 => k_is)
    (case k17 => k_is)
    (case a18 => k_is)
    (case i18 => k_is)
    (case l18 => k_is)
    (case c18 => k_is)
    (case k18 => k_is)
    (case a19 => k_is)
    (case l19 => k_is)
    (case c19 => k_is)
    (case k19 => k_is)
    (case a20 => k_is)
    (case l20 => k_is)
    (case c20 => k_is)
    (case k20 => k_is)
    (case a21 => k_is)
    (case l21 => k_is)
    (case c21 => k_is)
    (case k21 => k_is)
    (case a22 => k_is)
    (case l22 => k_is)
    (case c22 => k_is)
    (case k22 => k_is)
    (case a23 => k_is)
    (case l23 => k_is)
    (case c23 => k_is)
    (case k23 => k_is)
    (case a24 => k_is)
    (case l24 => k_is)
    (case c24 => k_is)
    (case k24 => k_is)
    (case a25 => k_is)
    (case l25 => k_is)
    (case c25 => k_is)
    (case k25 => k_is)
    (case a26 => k_is)
    (case l26 => k_is)
    (case c26 => k_is)
    (case k26 => k_is)
    (case a27 => k_is)
    (case l27 => k_is)
    (case c27 => k_is)
    (case k27 => k_is)
    (case a28 => k_is)
    (case l28 => k_is)
    (case c28 => k_is)
    (case k28 => k_is)
    (case a29 => k_is)
    (case l29 => k_is)
    (case c29 => k_is)
    (case k29 => k_is)
    (case a30 => k_is)
    (case l30 => k_is)
    (case c30 => k_is)
    (case k30 => k_is)
    (case a31 => k_is)
    (case l31 => k_is)
    (case c31 => k_is)
    (case k31 => k_is)
    (case a32 => k_is)
    (case l32 => k_is)
    (case c32 => k_is)
    (case k32 => k_is)
    (case z_len => k_is)
    (case z_isinstance => k_is)
    (case z_int => k_is)
    (case z_bool => k_is)
    (case z_list => k_is)
    (case z_tuple => k_is)
    (case z_all => k_is)
    (case z_any => k_is)
    (case z_sum => k_is)
    (case z_max => k_is)
    (case z_min => k_is)
    (case z_sorted => k_is)
    (case z_set => k_is)
    (case z_range => k_is)
    (case z_enumerate => k_is)
    (case z_zip => k_is)
    (case z_abs => k_is)
    (case z_str => k_is)
    (case zM => k_is)

end
#print axioms PySem.Challenge.cw_eitherdoes_k03_whole_passed_holds
