import PyProof.Rows.All
import Wide.All
import OpenK.AllK
import Wide.FinOn
import HandS.ForMost
import HandS.Evl
import HandS.Walk
import HandS.IsInst
import HandS.Style
import HandS.Wide
import HandS.SortInts
import HandS.More
import HandS.EndBits
import HandS.Deep
import HandS.Conv
import HandS.Strs
import HandS.SetFor
import KE.RegMulBits
import PySem.Challenge.RW_eitherdoes_k04_whole_rings
set_option Elab.async false
section
set_option Elab.async false
set_option linter.all false
set_option maxRecDepth 100000
set_option maxHeartbeats 2000000
namespace IL
open PySem L2

/-! ### the plain machine: values, objects, a store -/
inductive Va where
  | non | bl (b : Bool) | int (i : Int) | str (s : Str) | ty (n : String) | gl (n : Str) | ref (n : Nat) | scr (ns : List Int) | exc (c : Str)
  deriving DecidableEq
inductive Ob where
  | lst (xs : List Va) | tup (xs : List Va) | dic (es : List (Int × Va)) | obj (c : Str) (fs : List (Str × Va)) | hid
  deriving DecidableEq
abbrev Sto := List Ob
abbrev Env := List (Option Va)
inductive R (α : Type) where
  | ok (a : α) (S : Sto) | ex (c : Str) (S : Sto) | no
def R.bind {α β : Type} (r : R α) (k : α → Sto → R β) : R β := match r with
  | .ok a S => k a S
  | .ex c S => .ex c S
  | .no => .no
@[simp] theorem R.bind_ok {α β : Type} {a : α} {S : Sto} {k : α → Sto → R β} : (R.ok a S).bind k = k a S := rfl
@[simp] theorem R.bind_ex {α β : Type} {c : Str} {S : Sto} {k : α → Sto → R β} : (R.ex c S).bind k = .ex c S := rfl
@[simp] theorem R.bind_no {α β : Type} {k : α → Sto → R β} : (R.no).bind k = .no := rfl
/-- what stands behind a statement -/
inductive O where
  | nx (ρ : Env) (S : Sto) | rt (v : Va) (S : Sto) | ex (c : Str) (ρ : Env) (S : Sto) | no
abbrev IE := Env → Sto → R Va
abbrev IT := Env → Sto → R Bool
abbrev IA := Env → Sto → R (List Va)
abbrev IS := Env → Sto → O
abbrev Fn := List Va → Sto → R Va

/-! ### pairs of lists -/
section
variable {α β : Type} {F : α → β → Prop}
theorem Paired.get : ∀ {xs : List α} {us : List β} {i : Nat} {x : α}, Paired F xs us → xs[i]? = some x → ∃ u, us[i]? = some u ∧ F x u
  | _, _, _, _, .nil, e => by simp at e
  | _, _, 0, _, .cons r _, e => by simp at e; subst e; exact ⟨_, rfl, r⟩
  | _, _, i + 1, x, .cons _ t, e => by
    obtain ⟨u, h1, h2⟩ := Paired.get (i := i) (x := x) t (by simpa using e)
    exact ⟨u, by simpa using h1, h2⟩
theorem Paired.len : ∀ {xs : List α} {us : List β}, Paired F xs us → xs.length = us.length
  | _, _, .nil => rfl
  | _, _, .cons _ t => by simp [Paired.len t]
theorem Paired.set {x : α} {u : β} (r : F x u) : ∀ {xs : List α} {us : List β} (i : Nat), Paired F xs us → Paired F (xs.set i x) (us.set i u)
  | _, _, _, .nil => .nil
  | _, _, 0, .cons _ t => .cons r t
  | _, _, i + 1, .cons q t => .cons q (Paired.set r i t)
theorem Paired.append : ∀ {xs ys : List α} {us ws : List β}, Paired F xs us → Paired F ys ws → Paired F (xs ++ ys) (us ++ ws)
  | _, _, _, _, .nil, s => s
  | _, _, _, _, .cons r t, s => .cons r (Paired.append t s)
theorem Paired.take : ∀ {xs : List α} {us : List β} (n : Nat), Paired F xs us → Paired F (xs.take n) (us.take n)
  | _, _, 0, _ => .nil
  | _, _, _ + 1, .nil => .nil
  | _, _, n + 1, .cons r t => .cons r (Paired.take n t)
theorem Paired.drop : ∀ {xs : List α} {us : List β} (n : Nat), Paired F xs us → Paired F (xs.drop n) (us.drop n)
  | _, _, 0, r => r
  | _, _, _ + 1, .nil => .nil
  | _, _, n + 1, .cons _ t => Paired.drop n t
theorem Paired.reverse : ∀ {xs : List α} {us : List β}, Paired F xs us → Paired F xs.reverse us.reverse
  | _, _, .nil => .nil
  | _, _, .cons r t => by
    rw [List.reverse_cons, List.reverse_cons]
    exact Paired.append (Paired.reverse t) (.cons r .nil)
theorem Paired.rep {xs : List α} {us : List β} (h : Paired F xs us) : ∀ k : Nat, Paired F (List.replicate k xs).flatten (List.replicate k us).flatten
  | 0 => .nil
  | k + 1 => by
    rw [List.replicate_succ, List.replicate_succ, List.flatten_cons, List.flatten_cons]
    exact Paired.append h (Paired.rep h k)
theorem Paired.imp {G : α → β → Prop} (f : ∀ a b, F a b → G a b) : ∀ {xs : List α} {us : List β}, Paired F xs us → Paired G xs us
  | _, _, .nil => .nil
  | _, _, .cons r t => .cons (f _ _ r) (Paired.imp f t)
theorem Paired.atI {xs : List α} {us : List β} {i : Int} {x : α} (r : Paired F xs us) (h : L2.atI xs i = some x) : ∃ u, L2.atI us i = some u ∧ F x u := by
  unfold L2.atI at h ⊢
  rw [← Paired.len r]
  cases e : ixN xs.length i with
  | none => rw [e] at h; cases h
  | some k => rw [e] at h; exact Paired.get r h
end

/-! ### the tie to the abstract heap -/
structure Gm where
  γ : Str → Addr
  K : PySem.W.Frag
  a0 : Addr
  ns : List Int
def Le (ι ι' : List Addr) : Prop := ∀ (n : Nat) (a : Addr), ι[n]? = some a → ι'[n]? = some a
theorem Le.refl (ι : List Addr) : Le ι ι := fun _ _ h => h
theorem Le.trans {ι ι1 ι2 : List Addr} (a : Le ι ι1) (b : Le ι1 ι2) : Le ι ι2 := fun n x h => b n x (a n x h)
theorem Le.snoc (ι : List Addr) (p : Addr) : Le ι (ι ++ [p]) := fun n a h => by
  rw [List.getElem?_append_left (List.getElem?_eq_some_iff.mp h).1]; exact h
def VR (g : Gm) (ι : List Addr) : Va → V → Prop
  | .non, v => v = .non
  | .bl b, v => v = .bl b
  | .int i, v => v = .int i
  | .str s, v => v = .str s
  | .ty n, v => v = .ty n
  | .gl n, v => v = .ref (g.γ n)
  | .ref n, v => ∃ a, ι[n]? = some a ∧ v = .ref a
  | .scr ns, v => v = .ref g.a0 ∧ ns = g.ns
  | .exc _, _ => False
abbrev VRs (g : Gm) (ι : List Addr) : List Va → List V → Prop := Paired (VR g ι)
def KR (g : Gm) (ι : List Addr) (e : Int × Va) (kv : Key × V) : Prop := kv.1 = .inl e.1 ∧ VR g ι e.2 kv.2
def FR (g : Gm) (ι : List Addr) (e : Str × Va) (kv : Str × V) : Prop := kv.1 = e.1 ∧ VR g ι e.2 kv.2
section
variable {g : Gm} {ι ι' : List Addr}
theorem VR.mono (le : Le ι ι') {x : Va} {v : V} (h : VR g ι x v) : VR g ι' x v := by
  cases x with
  | ref n => obtain ⟨a, h1, h2⟩ := h; exact ⟨a, le n a h1, h2⟩
  | _ => exact h
theorem VRs.mono (le : Le ι ι') {x : List Va} {v : List V} (h : VRs g ι x v) : VRs g ι' x v := Paired.imp (fun _ _ => VR.mono le) h
def ObR (g : Gm) (ι : List Addr) (H : Hp) (a : Addr) : Ob → Prop
  | .lst xs => ∃ vs, H a = some (.lst vs) ∧ VRs g ι xs vs
  | .tup xs => ∃ vs, H a = some (.tup vs) ∧ VRs g ι xs vs
  | .dic es => ∃ kvs, H a = some (.dK kvs) ∧ Paired (KR g ι) es kvs
  | .obj c fs => ∃ dx vs, H a = some (.ins (g.γ c) dx vs) ∧ Paired (FR g ι) fs vs
  | .hid => H a ≠ none
/-- what is frozen stays -/
def Frz (H H' : Hp) : Prop := ∀ b o u, H b = some (.frz o u) → H' b = some (.frz o u)
theorem Frz.refl (H : Hp) : Frz H H := fun _ _ _ h => h
theorem Frz.trans {H H1 H2 : Hp} (a : Frz H H1) (b : Frz H1 H2) : Frz H H2 := fun c o u h => b c o u (a c o u h)
theorem Frz.upd {H : Hp} {p : Addr} {o : HO} (h : ∀ ob u, H p ≠ some (.frz ob u)) : Frz H (upd H p o) := fun b ob u e => by
  rw [upd_ne (fun z => by subst z; exact h ob u e)]; exact e
structure Sim (g : Gm) (ι : List Addr) (S : Sto) (H : Hp) : Prop where
  nd : ι.Nodup
  len : ι.length = S.length
  ob : ∀ (n : Nat) (o : Ob) (a : Addr), S[n]? = some o → ι[n]? = some a → ObR g ι H a o
  sc : ∀ H', Frz H H' → SqL g.K H' g.a0 (g.ns.map V.int)
theorem ObR.mono {H : Hp} {a : Addr} {o : Ob} (le : Le ι ι') (h : ObR g ι H a o) : ObR g ι' H a o := by
  cases o with
  | lst xs => obtain ⟨vs, h1, h2⟩ := h; exact ⟨vs, h1, h2.mono le⟩
  | tup xs => obtain ⟨vs, h1, h2⟩ := h; exact ⟨vs, h1, h2.mono le⟩
  | dic es => obtain ⟨vs, h1, h2⟩ := h; exact ⟨vs, h1, Paired.imp (fun _ _ q => ⟨q.1, q.2.mono le⟩) h2⟩
  | obj c fs => obtain ⟨dx, vs, h1, h2⟩ := h; exact ⟨dx, vs, h1, Paired.imp (fun _ _ q => ⟨q.1, q.2.mono le⟩) h2⟩
  | hid => exact h
theorem ObR.heap {H H' : Hp} {a : Addr} {o : Ob} (e : H' a = H a) (h : ObR g ι H a o) : ObR g ι H' a o := by
  cases o <;> simp only [ObR, e] at h ⊢ <;> exact h
theorem ObR.there {H : Hp} {a : Addr} {o : Ob} (h : ObR g ι H a o) : H a ≠ none := by
  cases o with
  | lst xs => obtain ⟨vs, h1, h2⟩ := h; rw [h1]; intro z; cases z
  | tup xs => obtain ⟨vs, h1, h2⟩ := h; rw [h1]; intro z; cases z
  | dic es => obtain ⟨vs, h1, h2⟩ := h; rw [h1]; intro z; cases z
  | obj c fs => obtain ⟨dx, vs, h1, h2⟩ := h; rw [h1]; intro z; cases z
  | hid => exact h
variable {S : Sto} {H : Hp}
theorem Sim.at_ (s : Sim g ι S H) {n : Nat} {o : Ob} (e : S[n]? = some o) : ∃ a, ι[n]? = some a ∧ ObR g ι H a o := by
  have h : n < ι.length := by rw [s.len]; exact (List.getElem?_eq_some_iff.mp e).1
  exact ⟨ι[n], by simp [h], s.ob n o _ e (by simp [h])⟩
theorem Sim.ref {n : Nat} {o : Ob} {v : V} (s : Sim g ι S H) (e : S[n]? = some o) (h : VR g ι (.ref n) v) : ∃ a, v = .ref a ∧ ι[n]? = some a ∧ ObR g ι H a o := by
  obtain ⟨a, h1, h2⟩ := h
  exact ⟨a, h2, h1, s.ob n o a e h1⟩
theorem Sim.scr (s : Sim g ι S H) : SqL g.K H g.a0 (g.ns.map V.int) := s.sc H (Frz.refl H)
theorem Sim.fresh (s : Sim g ι S H) {p : Addr} (h : H p = none) : p ∉ ι := fun hp => by
  obtain ⟨n, hn⟩ := List.mem_iff_getElem?.mp hp
  have : n < S.length := by rw [← s.len]; exact (List.getElem?_eq_some_iff.mp hn).1
  exact (s.ob n S[n] p (by simp [this]) hn).there h
/-- a new name -/
theorem Sim.join (s : Sim g ι S H) {p : Addr} {o : Ob} {u : HO} (hp : p ∉ ι) (hf : ∀ ob u, H p ≠ some (.frz ob u)) (h : ObR g (ι ++ [p]) (upd H p u) p o) : Sim g (ι ++ [p]) (S ++ [o]) (upd H p u) := by
  refine ⟨?_, by simp [s.len], fun n o' a e1 e2 => ?_, fun H' f => s.sc H' ((Frz.upd hf).trans f)⟩
  · rw [List.nodup_append]
    exact ⟨s.nd, by simp, fun a ha b hb => by rw [List.mem_singleton] at hb; rintro rfl; exact hp (hb ▸ ha)⟩
  · by_cases hn : n < S.length
    · rw [List.getElem?_append_left hn] at e1
      rw [List.getElem?_append_left (by rw [s.len]; exact hn)] at e2
      refine ((s.ob n o' a e1 e2).mono (Le.snoc ι p)).heap (upd_ne fun z => ?_)
      exact hp (z ▸ List.mem_of_getElem? e2)
    · have hl : n = S.length := by
        have := (List.getElem?_eq_some_iff.mp e1).1
        simp at this; omega
      subst hl
      rw [List.getElem?_concat_length] at e1
      rw [← s.len, List.getElem?_concat_length] at e2
      cases e1; cases e2
      exact h
/-- a new object -/
theorem Sim.alloc (s : Sim g ι S H) {p : Addr} {o : Ob} {u : HO} (hp : H p = none) (h : ObR g (ι ++ [p]) (upd H p u) p o) : Sim g (ι ++ [p]) (S ++ [o]) (upd H p u) :=
  s.join (s.fresh hp) (fun ob u z => by rw [hp] at z; cases z) h
theorem Sim.lst (s : Sim g ι S H) {p : Addr} {xs : List Va} {vs : List V} (hp : H p = none) (h : VRs g ι xs vs) : Sim g (ι ++ [p]) (S ++ [.lst xs]) (upd H p (.lst vs)) :=
  s.alloc hp ⟨vs, upd_same, h.mono (Le.snoc ι p)⟩
theorem Sim.tup (s : Sim g ι S H) {p : Addr} {xs : List Va} {vs : List V} (hp : H p = none) (h : VRs g ι xs vs) : Sim g (ι ++ [p]) (S ++ [.tup xs]) (upd H p (.tup vs)) :=
  s.alloc hp ⟨vs, upd_same, h.mono (Le.snoc ι p)⟩
theorem Sim.newRef (s : Sim g ι S H) {p : Addr} : VR g (ι ++ [p]) (.ref S.length) (.ref p) := ⟨p, by rw [← s.len, List.getElem?_concat_length], rfl⟩
/-- an object that no index names -/
theorem Sim.more (s : Sim g ι S H) {p : Addr} {u : HO} (hp : H p = none) : Sim g ι S (upd H p u) :=
  ⟨s.nd, s.len, fun n o a e1 e2 => (s.ob n o a e1 e2).heap (upd_ne fun z => s.fresh hp (z ▸ List.mem_of_getElem? e2)), fun H' f => s.sc H' ((Frz.upd (fun ob u z => by rw [hp] at z; cases z)).trans f)⟩
/-- .. changed -/
theorem Sim.other (s : Sim g ι S H) {p : Addr} {u : HO} (hp : p ∉ ι) (hf : ∀ ob u, H p ≠ some (.frz ob u)) : Sim g ι S (upd H p u) :=
  ⟨s.nd, s.len, fun n o a e1 e2 => (s.ob n o a e1 e2).heap (upd_ne fun z => hp (z ▸ List.mem_of_getElem? e2)), fun H' f => s.sc H' ((Frz.upd hf).trans f)⟩
/-- an object changed -/
theorem Sim.put (s : Sim g ι S H) {n : Nat} {a : Addr} {o : Ob} {u : HO} (e : ι[n]? = some a) (hf : ∀ ob u, H a ≠ some (.frz ob u)) (h : ObR g ι (upd H a u) a o) : Sim g ι (S.set n o) (upd H a u) := by
  refine ⟨s.nd, by simp [s.len], fun m o' b e1 e2 => ?_, fun H' f => s.sc H' ((Frz.upd hf).trans f)⟩
  by_cases hm : n = m
  · subst hm
    rw [e] at e2; cases e2
    have hn : n < S.length := by rw [← s.len]; exact (List.getElem?_eq_some_iff.mp e).1
    rw [List.getElem?_set_self hn] at e1
    cases e1
    exact h
  · rw [List.getElem?_set_ne hm] at e1
    refine (s.ob m o' b e1 e2).heap (upd_ne fun z => hm ?_)
    subst z
    obtain ⟨h1, e1'⟩ := List.getElem?_eq_some_iff.mp e
    obtain ⟨h2, e2'⟩ := List.getElem?_eq_some_iff.mp e2
    exact (List.getElem_inj s.nd).mp (e1'.trans e2'.symm)
/-- slots -/
structure ER (g : Gm) (ι : List Addr) (ρ : Env) (σ : St) : Prop where
  len : ρ.length = σ.length
  at_ : ∀ (i : Nat) (x : Va), ρ[i]? = some (some x) → ∃ v, σ[i]? = some (some v) ∧ VR g ι x v
theorem ER.mono {ρ : Env} {σ : St} (le : Le ι ι') (h : ER g ι ρ σ) : ER g ι' ρ σ := ⟨h.len, fun i x e => let ⟨v, h1, h2⟩ := h.at_ i x e; ⟨v, h1, h2.mono le⟩⟩
theorem ER.set {ρ : Env} {σ : St} {x : Va} {v : V} (h : ER g ι ρ σ) (i : Nat) (r : VR g ι x v) : ER g ι (ρ.set i (some x)) (σ.set i (some v)) := by
  refine ⟨by simp [h.len], fun j y e => ?_⟩
  by_cases hj : i = j
  · subst hj
    have hi : i < ρ.length := by
      have := (List.getElem?_eq_some_iff.mp e).1
      simpa using this
    rw [List.getElem?_set_self hi] at e
    cases e
    exact ⟨v, by rw [List.getElem?_set_self (by rw [← h.len]; exact hi)], r⟩
  · rw [List.getElem?_set_ne hj] at e ⊢
    exact h.at_ j y e
theorem ER.unset {ρ : Env} {σ : St} {o : Option V} (h : ER g ι ρ σ) (i : Nat) : ER g ι (ρ.set i none) (σ.set i o) := by
  refine ⟨by simp [h.len], fun j y e => ?_⟩
  by_cases hj : i = j
  · subst hj
    have hi : i < ρ.length := by
      have := (List.getElem?_eq_some_iff.mp e).1
      simpa using this
    rw [List.getElem?_set_self hi] at e
    cases e
  · rw [List.getElem?_set_ne hj] at e ⊢
    exact h.at_ j y e

/-! ### what is wanted behind a run of the plain machine -/
/-- the indices grow; what they do not name stays and stays unnamed -/
structure Ext (ι : List Addr) (H : Hp) (ι' : List Addr) (H' : Hp) : Prop where
  le : Le ι ι'
  fr : ∀ a, a ∉ ι → H a ≠ none → a ∉ ι' ∧ H' a = H a
  fz : Frz H H'
theorem Ext.refl (ι : List Addr) (H : Hp) : Ext ι H ι H := ⟨Le.refl _, fun _ h _ => ⟨h, rfl⟩, Frz.refl _⟩
theorem Ext.trans {ι ι1 ι2 : List Addr} {H H1 H2 : Hp} (a : Ext ι H ι1 H1) (b : Ext ι1 H1 ι2 H2) : Ext ι H ι2 H2 := ⟨a.le.trans b.le, fun x h1 h2 => by
  obtain ⟨p, q⟩ := a.fr x h1 h2
  obtain ⟨p', q'⟩ := b.fr x p (by rw [q]; exact h2)
  exact ⟨p', q'.trans q⟩, a.fz.trans b.fz⟩
theorem Frz.new {H : Hp} {p : Addr} {u : HO} (hp : H p = none) : Frz H (L2.upd H p u) := Frz.upd fun ob u z => by rw [hp] at z; cases z
theorem Ext.snoc {ι : List Addr} {H : Hp} {p : Addr} {u : HO} (hp : H p = none) : Ext ι H (ι ++ [p]) (upd H p u) := ⟨Le.snoc ι p, fun a h1 h2 => by
  have hap : a ≠ p := fun z => h2 (z ▸ hp)
  exact ⟨fun z => (List.mem_append.mp z).elim h1 fun z => hap (List.mem_singleton.mp z), upd_ne hap⟩, Frz.new hp⟩
theorem Ext.put {ι : List Addr} {H : Hp} {n : Nat} {p : Addr} {u : HO} (e : ι[n]? = some p) (hf : ∀ ob u, H p ≠ some (.frz ob u)) : Ext ι H ι (upd H p u) := ⟨Le.refl _, fun a h1 h2 => ⟨h1, upd_ne fun z => h1 (z ▸ List.mem_of_getElem? e)⟩, Frz.upd hf⟩
theorem Ext.new {ι : List Addr} {H : Hp} {p : Addr} {u : HO} (hp : H p = none) : Ext ι H ι (upd H p u) := ⟨Le.refl _, fun a h1 h2 => ⟨h1, upd_ne fun z => h2 (z ▸ hp)⟩, Frz.new hp⟩
def P {α : Type} (g : Gm) (ι : List Addr) (H : Hp) (W : Str → Hp → Prop) (T : α → List Addr → Hp → Prop) : R α → Prop
  | .ok x S' => ∀ ι' H', Ext ι H ι' H' → Sim g ι' S' H' → T x ι' H'
  | .ex c S' => ∀ ι' H', Ext ι H ι' H' → Sim g ι' S' H' → W c H'
  | .no => False
variable {α β : Type} {W : Str → Hp → Prop} {T : β → List Addr → Hp → Prop} {H' : Hp}
theorem P.le {r : R β} (le : Ext ι H ι' H') (h : P g ι H W T r) : P g ι' H' W T r := by
  cases r with
  | ok x S' => exact fun ι2 H2 l s => h ι2 H2 (le.trans l) s
  | ex c S' => exact fun ι2 H2 l s => h ι2 H2 (le.trans l) s
  | no => exact h
theorem P.mono {r : R β} {T' : β → List Addr → Hp → Prop} (h : P g ι H W T r) (f : ∀ x ι' H', Ext ι H ι' H' → T x ι' H' → T' x ι' H') : P g ι H W T' r := by
  cases r with
  | ok x S' => exact fun ι2 H2 l s => f x ι2 H2 l (h ι2 H2 l s)
  | ex c S' => exact h
  | no => exact h
theorem P.bind {r : R α} {k : α → Sto → R β} (h : P g ι H W T (r.bind k)) : P g ι H W (fun x ι' H' => ∃ S', Sim g ι' S' H' ∧ P g ι' H' W T (k x S')) r := by
  cases r with
  | ok x S' => exact fun ι2 H2 l s => ⟨S', s, P.le l h⟩
  | ex c S' => exact h
  | no => exact h
/-- a run from a later state, then more, the first state's wish kept -/
theorem P.thenB {ι0 : List Addr} {H0 : Hp} {r : R α} {k : α → Sto → R β} {T' : α → List Addr → Hp → Prop} (e0 : Ext ι H ι0 H0) (h : P g ι H W T (r.bind k)) (f : ∀ x ι' S' H', Ext ι0 H0 ι' H' → Sim g ι' S' H' → P g ι H W T (k x S') → T' x ι' H') : P g ι0 H0 W T' r := by
  cases r with
  | ok x S' => exact fun ι2 H2 l s => f x ι2 S' H2 l s h
  | ex c S' => exact fun ι2 H2 l s => h ι2 H2 (e0.trans l) s
  | no => exact h
/-- an object joins at the end -/
theorem Ext.join {ι ι2 : List Addr} {H H2 : Hp} {p : Addr} {u v : HO} (hp : H p = none) (e : Ext ι (upd H p u) ι2 H2) : Ext ι H (ι2 ++ [p]) (upd H2 p v) := ⟨e.le.trans (Le.snoc _ _), fun a h1 h2 => by
  have hap : a ≠ p := fun z => h2 (z ▸ hp)
  obtain ⟨x, y⟩ := e.fr a h1 (by rw [upd_ne hap]; exact h2)
  rw [upd_ne hap] at y ⊢
  exact ⟨fun z => (List.mem_append.mp z).elim x fun z => hap (List.mem_singleton.mp z), y⟩, fun b ob w hb => by
  have hbp : b ≠ p := fun z => by rw [z, hp] at hb; cases hb
  rw [upd_ne hbp]
  exact e.fz b ob w (by rw [upd_ne hbp]; exact hb)⟩
/-- a run, then more -/
theorem P.then {r : R α} {k : α → Sto → R β} {T' : α → List Addr → Hp → Prop} (h : P g ι H W T (r.bind k)) (f : ∀ x ι' S' H', Ext ι H ι' H' → Sim g ι' S' H' → P g ι' H' W T (k x S') → T' x ι' H') : P g ι H W T' r :=
  h.bind.mono fun x ι' H' l ⟨S', s, q⟩ => f x ι' S' H' l s q
end

abbrev WH := Str → St → Hp → Prop
/-- no exception is wished for -/
def W0 : WH := fun _ _ _ => False
def SdE (g : Gm) (W : WH) (t : TE) (i : IE) : Prop := ∀ ι ρ S σ H (Q : VK), Sim g ι S H → ER g ι ρ σ → P g ι H (W · σ) (fun x ι' H' => ∀ v, VR g ι' x v → Q v H') (i ρ S) → t σ H Q
def SdT (g : Gm) (W : WH) (t : TT) (i : IT) : Prop := ∀ ι ρ S σ H (Q : Bool → Hp → Prop), Sim g ι S H → ER g ι ρ σ → P g ι H (W · σ) (fun b _ H' => Q b H') (i ρ S) → t σ H Q
def SdA (g : Gm) (W : WH) (t : TA) (i : IA) : Prop := ∀ ι ρ S σ H (Q : List V → Hp → Prop), Sim g ι S H → ER g ι ρ σ → P g ι H (W · σ) (fun x ι' H' => ∀ v, VRs g ι' x v → Q v H') (i ρ S) → t σ H Q
def SdR (g : Gm) (W : WH) (r : R2) (f : Va → Va → Sto → R Va) : Prop := ∀ ι S H x y v u σ (Q : VK), Sim g ι S H → VR g ι x v → VR g ι y u → P g ι H (W · σ) (fun x ι' H' => ∀ v, VR g ι' x v → Q v H') (f x y S) → r v u H Q
def SdC (g : Gm) (W : WH) (r : List V → Hp → VK → Prop) (f : List Va → Sto → R Va) : Prop := ∀ ι S H xs vs σ (Q : VK), Sim g ι S H → VRs g ι xs vs → P g ι H (W · σ) (fun x ι' H' => ∀ v, VR g ι' x v → Q v H') (f xs S) → r vs H Q
def SdM (g : Gm) (W : WH) (r : V → List V → Hp → VK → Prop) (f : Va → List Va → Sto → R Va) : Prop := ∀ ι S H x v xs vs σ (Q : VK), Sim g ι S H → VR g ι x v → VRs g ι xs vs → P g ι H (W · σ) (fun x ι' H' => ∀ v, VR g ι' x v → Q v H') (f x xs S) → r v vs H Q

/-! ### expressions -/
def iVar (i : Nat) : IE := fun ρ S => match ρ[i]? with
  | some (some v) => .ok v S
  | _ => .no
def iC (v : Va) : IE := fun _ S => .ok v S
def iOp (f : Va → Va → Sto → R Va) (a b : IE) : IE := fun ρ S => (a ρ S).bind fun x S1 => (b ρ S1).bind fun y S2 => f x y S2
def iUn (f : Va → Sto → R Va) (a : IE) : IE := fun ρ S => (a ρ S).bind fun x S1 => f x S1
def iNil : IA := fun _ S => .ok [] S
def iCons (a : IE) (r : IA) : IA := fun ρ S => (a ρ S).bind fun x S1 => (r ρ S1).bind fun xs S2 => .ok (x :: xs) S2
def iLst (a : IA) : IE := fun ρ S => (a ρ S).bind fun xs S1 => .ok (.ref S1.length) (S1 ++ [.lst xs])
def iTup (a : IA) : IE := fun ρ S => (a ρ S).bind fun xs S1 => .ok (.ref S1.length) (S1 ++ [.tup xs])
def iCB (f : List Va → Sto → R Va) (a : IA) : IE := fun ρ S => (a ρ S).bind fun xs S1 => f xs S1
def asB : Va → Sto → R Bool
  | .bl b, S => .ok b S
  | _, _ => .no
def iB (a : IE) : IT := fun ρ S => (a ρ S).bind asB
def iAnd (a b : IT) : IT := fun ρ S => (a ρ S).bind fun c S1 => if c = true then b ρ S1 else .ok false S1
def iOr (a b : IT) : IT := fun ρ S => (a ρ S).bind fun c S1 => if c = true then .ok true S1 else b ρ S1
def iNot (a : IT) : IT := fun ρ S => (a ρ S).bind fun c S1 => .ok (!c) S1
def iYes : IT := fun _ S => .ok true S
def iAndV (a b : IE) : IE := fun ρ S => (a ρ S).bind fun x S1 => (asB x S1).bind fun c S1 => if c = true then b ρ S1 else .ok (.bl false) S1
def iOrV (a b : IE) : IE := fun ρ S => (a ρ S).bind fun x S1 => (asB x S1).bind fun c S1 => if c = true then .ok (.bl true) S1 else b ρ S1
def iNotV (a : IE) : IE := fun ρ S => (a ρ S).bind fun x S1 => (asB x S1).bind fun c S1 => .ok (.bl (!c)) S1
def iIf (t : IT) (a b : IE) : IE := fun ρ S => (t ρ S).bind fun c S1 => if c = true then a ρ S1 else b ρ S1
def iChain (f f' : Va → Va → Sto → R Va) (a b c : IE) : IE := fun ρ S => (a ρ S).bind fun x S1 => (b ρ S1).bind fun y S2 => (f x y S2).bind fun z S3 => (asB z S3).bind fun k S3 =>
  if k = true then (c ρ S3).bind fun w S4 => f' y w S4 else .ok (.bl false) S3

section
variable {g : Gm} {W : WH} {te ta tb tc : TE} {ia ib ic : IE} {tt tu : TT} {it iu : IT}
theorem asB_inv {α : Type} {ι : List Addr} {H : Hp} {W : Str → Hp → Prop} {x : Va} {S : Sto} {T : α → List Addr → Hp → Prop} {k : Bool → Sto → R α} (h : P g ι H W T ((asB x S).bind k)) : ∃ b, x = .bl b ∧ P g ι H W T (k b S) := by
  cases x with
  | bl b => exact ⟨b, rfl, h⟩
  | _ => exact h.elim
theorem sd_var {i : Nat} : SdE g W (tVar i) (iVar i) := fun ι ρ S σ H Q s e h => by
  unfold iVar at h
  split at h
  · rename_i v hv
    obtain ⟨u, h1, h2⟩ := e.at_ i v hv
    exact ⟨u, h1, h ι H (Ext.refl _ _) s u h2⟩
  · exact h.elim
theorem sd_c {v : V} {x : Va} (hv : ∀ ι, VR g ι x v) : SdE g W (tC v) (iC x) := fun ι ρ S σ H Q s e h => h ι H (Ext.refl _ _) s v (hv ι)
theorem sd_int {i : Int} : SdE g W (tC (.int i)) (iC (.int i)) := sd_c fun _ => rfl
theorem sd_bl {i : Bool} : SdE g W (tC (.bl i)) (iC (.bl i)) := sd_c fun _ => rfl
theorem sd_str {i : Str} : SdE g W (tC (.str i)) (iC (.str i)) := sd_c fun _ => rfl
theorem sd_non : SdE g W (tC .non) (iC .non) := sd_c fun _ => rfl
theorem sd_ty {n : String} : SdE g W (tC (.ty n)) (iC (.ty n)) := sd_c fun _ => rfl
theorem sd_gl {n : Str} {a : Addr} (h : g.γ n = a) : SdE g W (tC (.ref a)) (iC (.gl n)) := sd_c fun _ => by rw [← h]; rfl
theorem sd_op {r : R2} {f : Va → Va → Sto → R Va} (hr : SdR g W r f) (ha : SdE g W ta ia) (hb : SdE g W tb ib) : SdE g W (tOp r ta tb) (iOp f ia ib) := fun ι ρ S σ H Q s e h =>
  ha ι ρ S σ H _ s e (h.then fun x ι1 S1 H1 l s1 h1 v vr => hb ι1 ρ S1 σ H1 _ s1 (e.mono l.le) (h1.then fun y ι2 S2 H2 l2 s2 h2 u ur => hr ι2 S2 H2 x y v u σ Q s2 (vr.mono l2.le) ur h2))
theorem sd_nil : SdA g W tNil iNil := fun ι ρ S σ H Q s e h => h ι H (Ext.refl _ _) s [] .nil
theorem sd_cons {t : TA} {i : IA} (ha : SdE g W ta ia) (hr : SdA g W t i) : SdA g W (tCons ta t) (iCons ia i) := fun ι ρ S σ H Q s e h =>
  ha ι ρ S σ H _ s e (h.then fun x ι1 S1 H1 l s1 h1 v vr => hr ι1 ρ S1 σ H1 _ s1 (e.mono l.le) (h1.then fun y ι2 S2 H2 l2 s2 h2 u ur => h2 ι2 H2 (Ext.refl _ _) s2 _ (.cons (vr.mono l2.le) ur)))
theorem sz {n : Nat} (h : n ≤ 100000) : n ≤ sizeLine := Evl.sz_of h
theorem sd_lst {t : TA} {i : IA} (n : Nat) (hl : ∀ ρ S xs S', i ρ S = .ok xs S' → xs.length = n) (hn : n ≤ 100000) (ha : SdA g W t i) : SdE g W (tLst t) (iLst i) := fun ι ρ S σ H Q s e h => by
  refine ha ι ρ S σ H _ s e ?_
  unfold iLst at h
  cases hi : i ρ S with
  | ok xs S1 =>
    rw [hi] at h
    intro ι1 H1 l s1 vs vr
    refine ⟨sz (by rw [← Paired.len vr, hl _ _ _ _ hi]; exact hn), fun p hp => ?_⟩
    exact h _ _ (l.trans (Ext.snoc hp)) (s1.lst hp vr) _ s1.newRef
  | ex c S1 => rw [hi] at h; exact h
  | no => rw [hi] at h; exact h
theorem sd_tup {t : TA} {i : IA} (n : Nat) (hl : ∀ ρ S xs S', i ρ S = .ok xs S' → xs.length = n) (hn : n ≤ 100000) (ha : SdA g W t i) : SdE g W (tTup t) (iTup i) := fun ι ρ S σ H Q s e h => by
  refine ha ι ρ S σ H _ s e ?_
  unfold iTup at h
  cases hi : i ρ S with
  | ok xs S1 =>
    rw [hi] at h
    intro ι1 H1 l s1 vs vr
    refine ⟨sz (by rw [← Paired.len vr, hl _ _ _ _ hi]; exact hn), fun p hp => ?_⟩
    exact h _ _ (l.trans (Ext.snoc hp)) (s1.tup hp vr) _ s1.newRef
  | ex c S1 => rw [hi] at h; exact h
  | no => rw [hi] at h; exact h
theorem len_nil (ρ : Env) (S : Sto) (xs : List Va) (S' : Sto) (h : iNil ρ S = .ok xs S') : xs.length = 0 := by cases h; rfl
theorem len_cons {i : IA} {n : Nat} (hl : ∀ ρ S xs S', i ρ S = .ok xs S' → xs.length = n) (ρ : Env) (S : Sto) (xs : List Va) (S' : Sto) (h : iCons ia i ρ S = .ok xs S') : xs.length = n + 1 := by
  unfold iCons at h
  cases h1 : ia ρ S with
  | ok x S1 =>
    rw [h1, R.bind_ok] at h
    cases h2 : i ρ S1 with
    | ok ys S2 => rw [h2, R.bind_ok] at h; cases h; rw [List.length_cons, hl _ _ _ _ h2]
    | ex c S2 => rw [h2] at h; cases h
    | no => rw [h2] at h; cases h
  | ex c S1 => rw [h1] at h; cases h
  | no => rw [h1] at h; cases h
theorem sd_cb {r : List V → Hp → VK → Prop} {f : List Va → Sto → R Va} {t : TA} {i : IA} (hr : SdC g W r f) (ha : SdA g W t i) : SdE g W (tCB r t) (iCB f i) := fun ι ρ S σ H Q s e h =>
  ha ι ρ S σ H _ s e (h.then fun x ι1 S1 H1 l s1 h1 v vr => hr ι1 S1 H1 x v σ Q s1 vr h1)
theorem sd_un {r : V → Hp → VK → Prop} {f : Va → Sto → R Va} (hr : ∀ ι S H x v σ (Q : VK), Sim g ι S H → VR g ι x v → P g ι H (W · σ) (fun x ι' H' => ∀ v, VR g ι' x v → Q v H') (f x S) → r v H Q) (ha : SdE g W ta ia) : SdE g W (tUn r ta) (iUn f ia) := fun ι ρ S σ H Q s e h =>
  ha ι ρ S σ H _ s e (h.then fun x ι1 S1 H1 l s1 h1 v vr => hr ι1 S1 H1 x v σ Q s1 vr h1)
/-! tests -/
theorem sd_test (ha : SdE g W ta ia) : SdT g W (tTest ta) (iB ia) := fun ι ρ S σ H Q s e h =>
  ha ι ρ S σ H _ s e (h.then fun x ι1 S1 H1 l s1 h1 v vr => by
    cases x with
    | bl b => exact ⟨b, vr, h1 ι1 H1 (Ext.refl _ _) s1⟩
    | _ => exact h1.elim)
theorem sd_tB (ha : SdE g W ta ia) : SdT g W (tB ta) (iB ia) := sd_test ha
theorem sd_tru (ha : SdE g W ta ia) : SdT g W (fun σ H Q => ta σ H fun x H' => ∃ k, TruV g.K x H' k ∧ Q k H') (iB ia) := fun ι ρ S σ H Q s e h =>
  ha ι ρ S σ H _ s e (h.then fun x ι1 S1 H1 l s1 h1 v vr => by
    cases x with
    | bl b => cases vr; exact ⟨b, rfl, h1 ι1 H1 (Ext.refl _ _) s1⟩
    | _ => exact h1.elim)
theorem sd_and (ha : SdT g W tt it) (hb : SdT g W tu iu) : SdT g W (tAnd tt tu) (iAnd it iu) := fun ι ρ S σ H Q s e h =>
  ha ι ρ S σ H _ s e (h.then fun c ι1 S1 H1 l s1 h1 => by
    cases c with
    | true => exact hb ι1 ρ S1 σ H1 Q s1 (e.mono l.le) h1
    | false => exact h1 ι1 H1 (Ext.refl _ _) s1)
theorem sd_or (ha : SdT g W tt it) (hb : SdT g W tu iu) : SdT g W (tOr tt tu) (iOr it iu) := fun ι ρ S σ H Q s e h =>
  ha ι ρ S σ H _ s e (h.then fun c ι1 S1 H1 l s1 h1 => by
    cases c with
    | false => exact hb ι1 ρ S1 σ H1 Q s1 (e.mono l.le) h1
    | true => exact h1 ι1 H1 (Ext.refl _ _) s1)
theorem sd_not (ha : SdT g W tt it) : SdT g W (tNot tt) (iNot it) := fun ι ρ S σ H Q s e h =>
  ha ι ρ S σ H _ s e (h.then fun c ι1 S1 H1 l s1 h1 => h1 ι1 H1 (Ext.refl _ _) s1)
theorem sd_yes : SdT g W tYes iYes := fun ι ρ S σ H Q s e h => h ι H (Ext.refl _ _) s
theorem sd_andV (ha : SdE g W ta ia) (hb : SdE g W tb ib) : SdE g W (tAndV ta tb) (iAndV ia ib) := fun ι ρ S σ H Q s e h =>
  ha ι ρ S σ H _ s e (h.then fun x ι1 S1 H1 l s1 h1 v vr => by
    obtain ⟨b, rfl, h2⟩ := asB_inv h1
    refine ⟨b, vr, ?_⟩
    cases b with
    | true => exact hb ι1 ρ S1 σ H1 Q s1 (e.mono l.le) h2
    | false => exact h2 ι1 H1 (Ext.refl _ _) s1 _ rfl)
theorem sd_orV (ha : SdE g W ta ia) (hb : SdE g W tb ib) : SdE g W (tOrV ta tb) (iOrV ia ib) := fun ι ρ S σ H Q s e h =>
  ha ι ρ S σ H _ s e (h.then fun x ι1 S1 H1 l s1 h1 v vr => by
    obtain ⟨b, rfl, h2⟩ := asB_inv h1
    refine ⟨b, vr, ?_⟩
    cases b with
    | false => exact hb ι1 ρ S1 σ H1 Q s1 (e.mono l.le) h2
    | true => exact h2 ι1 H1 (Ext.refl _ _) s1 _ rfl)
theorem sd_notV (ha : SdE g W ta ia) : SdE g W (tNotV ta) (iNotV ia) := fun ι ρ S σ H Q s e h =>
  ha ι ρ S σ H _ s e (h.then fun x ι1 S1 H1 l s1 h1 v vr => by
    obtain ⟨b, rfl, h2⟩ := asB_inv h1
    exact ⟨b, vr, h2 ι1 H1 (Ext.refl _ _) s1 _ rfl⟩)
theorem sd_if (ht : SdT g W tt it) (ha : SdE g W ta ia) (hb : SdE g W tb ib) : SdE g W (tIf tt ta tb) (iIf it ia ib) := fun ι ρ S σ H Q s e h =>
  ht ι ρ S σ H _ s e (h.then fun c ι1 S1 H1 l s1 h1 => by
    cases c with
    | true => exact ha ι1 ρ S1 σ H1 Q s1 (e.mono l.le) h1
    | false => exact hb ι1 ρ S1 σ H1 Q s1 (e.mono l.le) h1)
theorem sd_chain {r r' : R2} {f f' : Va → Va → Sto → R Va} (hr : SdR g W r f) (hr' : SdR g W r' f') (ha : SdE g W ta ia) (hb : SdE g W tb ib) (hc : SdE g W tc ic) : SdE g W (tChain r r' ta tb tc) (iChain f f' ia ib ic) := fun ι ρ S σ H Q s e h =>
  ha ι ρ S σ H _ s e (h.then fun x ι1 S1 H1 l s1 h1 v vr => hb ι1 ρ S1 σ H1 _ s1 (e.mono l.le) (h1.then fun y ι2 S2 H2 l2 s2 h2 u ur =>
    hr ι2 S2 H2 x y v u σ _ s2 (vr.mono l2.le) ur (h2.then fun z ι3 S3 H3 l3 s3 h3 w wr => by
      obtain ⟨b, rfl, h4⟩ := asB_inv h3
      refine ⟨b, wr, ?_⟩
      cases b with
      | true => exact hc ι3 ρ S3 σ H3 _ s3 (e.mono (l.trans (l2.trans l3)).le) (h4.then fun z ι4 S4 H4 l4 s4 h5 w wr => hr' ι4 S4 H4 y z u w σ Q s4 ((ur.mono l3.le).mono l4.le) wr h5)
      | false => exact h4 ι3 H3 (Ext.refl _ _) s3 _ rfl)))
end
end IL

end
section
set_option Elab.async false
set_option linter.all false
set_option maxRecDepth 100000
set_option maxHeartbeats 2000000
namespace IL
open PySem L2
/-! ### the plain machine's operations -/
def fII (k : Int → Int → Va) : Va → Va → Sto → R Va
  | .int i, .int j, S => .ok (k i j) S
  | _, _, _ => .no
abbrev fSub := fII fun i j => .int (i - j)
abbrev fLt := fII fun i j => .bl (decide (i < j))
abbrev fLe := fII fun i j => .bl (decide (i ≤ j))
abbrev fGt := fII fun i j => .bl (decide (j < i))
abbrev fGe := fII fun i j => .bl (decide (j ≤ i))
def fAdd : Va → Va → Sto → R Va
  | .int i, .int j, S => .ok (.int (i + j)) S
  | .ref a, .ref b, S => match S[a]?, S[b]? with
    | some (.lst xs), some (.lst ys) => if xs.length + ys.length ≤ 100000 then .ok (.ref S.length) (S ++ [.lst (xs ++ ys)]) else .no
    | _, _ => .no
  | _, _, _ => .no
open Classical in
noncomputable def fMul : Va → Va → Sto → R Va
  | .int i, .int j, S => if IntMulOk i j then .ok (.int (i * j)) S else .no
  | .ref a, .int k, S => match S[a]? with
    | some (.lst xs) => if 0 ≤ k ∧ k ≤ 100000 ∧ xs.length * k.toNat ≤ 100000 then .ok (.ref S.length) (S ++ [.lst (List.replicate k.toNat xs).flatten]) else .no
    | _ => .no
  | _, _, _ => .no
def fMod : Va → Va → Sto → R Va
  | .int i, .int j, S => if 0 < j then .ok (.int (i % j)) S else .no
  | _, _, _ => .no
def fDiv : Va → Va → Sto → R Va
  | .int i, .int j, S => if 0 < j ∧ j < 1073741824 then .ok (.int (i / j)) S else .no
  | _, _, _ => .no
def fPow : Va → Va → Sto → R Va
  | .int i, .int j, S => if 0 ≤ j ∧ j ≤ 1000000 ∧ i.natAbs < 2 ^ 64 then .ok (.int (i ^ j.toNat)) S else .no
  | _, _, _ => .no
def fNeg : Va → Sto → R Va
  | .int i, S => .ok (.int (-i)) S
  | _, _ => .no
def fIs : Va → Va → Sto → R Va
  | .bl a, .bl b, S => .ok (.bl (decide (a = b))) S
  | _, _, _ => .no
def fIsNot : Va → Va → Sto → R Va
  | .bl a, .bl b, S => .ok (.bl (!decide (a = b))) S
  | _, _, _ => .no
/-- a list's items (also the script's) -/
def getL (S : Sto) : Va → Option (List Va)
  | .ref n => match S[n]? with
    | some (.lst xs) => some xs
    | _ => none
  | .scr ns => some (ns.map .int)
  | _ => none
def getT (S : Sto) : Va → Option (List Va)
  | .ref n => match S[n]? with
    | some (.tup xs) => some xs
    | _ => none
  | _ => none
def getQ (S : Sto) (x : Va) : Option (List Va) := match getL S x with
  | some xs => some xs
  | none => getT S x
def fIx (x y : Va) (S : Sto) : R Va := match getQ S x, y with
  | some xs, .int i => match atI xs i with
    | some v => .ok v S
    | none => .no
  | _, _ => .no
def fIxL (x y : Va) (S : Sto) : R Va := match getL S x, y with
  | some xs, .int i => match atI xs i with
    | some v => .ok v S
    | none => .no
  | _, _ => .no
/-! data, for == -/
def allO {α : Type} : List (Option α) → Option (List α)
  | [] => some []
  | none :: _ => none
  | some a :: r => match allO r with
    | some l => some (a :: l)
    | none => none
def toP : Nat → Sto → Va → Option PyData
  | _, _, .non => some .none
  | _, _, .bl b => some (.bool b)
  | _, _, .int i => some (.int i)
  | _, _, .str s => if PyData.strOk s = true then some (.str s) else none
  | _, _, .scr ns => some (.list (ns.map .int))
  | k + 1, S, .ref n => match S[n]? with
    | some (.lst xs) => match allO (xs.map (toP k S)) with
      | some ds => some (.list ds)
      | none => none
    | some (.tup xs) => match allO (xs.map (toP k S)) with
      | some ds => some (.tuple ds)
      | none => none
    | _ => none
  | _, _, _ => none
def fEq (x y : Va) (S : Sto) : R Va := match toP 9 S x, toP 9 S y with
  | some d, some e => .ok (.bl (PyData.eqv d e)) S
  | _, _ => .no
def fNe (x y : Va) (S : Sto) : R Va := match toP 9 S x, toP 9 S y with
  | some d, some e => .ok (.bl (!PyData.eqv d e)) S
  | _, _ => .no
def fInD (neg : Bool) (x y : Va) (S : Sto) : R Va := match toP 9 S x, toP 9 S y with
  | some d, some (.list ds) => .ok (.bl (if neg then !ds.any fun z => PyData.eqv z d else ds.any fun z => PyData.eqv z d)) S
  | _, _ => .no
def flatA : Va → Bool
  | .non => true | .bl _ => true | .int _ => true | .str _ => true | _ => false
def eqA : Va → Va → Bool
  | .non, .non => true
  | .bl a, .bl b => a == b
  | .bl a, .int b => (if a then 1 else 0) == b
  | .int a, .bl b => a == (if b then 1 else 0)
  | .int a, .int b => a == b
  | .str a, .str b => a == b
  | _, _ => false
def inA (x : Va) (xs : List Va) : Bool := xs.any fun y => eqA y x
def fIn (neg : Bool) (x y : Va) (S : Sto) : R Va := match getQ S y with
  | some xs => if flatA x = true ∧ xs.all flatA = true then .ok (.bl (if neg then !inA x xs else inA x xs)) S else .no
  | none => .no
/-! built-ins -/
def asI : Va → Option Int
  | .int i => some i
  | _ => none
def asBl : Va → Option Bool
  | .bl i => some i
  | _ => none
def asIs (xs : List Va) : Option (List Int) := allO (xs.map asI)
def asBs (xs : List Va) : Option (List Bool) := allO (xs.map asBl)
def tyB (S : Sto) : Va → Option String
  | .non => some "NoneType" | .bl _ => some "bool" | .int _ => some "int" | .str _ => some "str"
  | .ref n => match S[n]? with
    | some (.lst _) => some "list" | some (.tup _) => some "tuple" | some (.dic _) => some "dict" | _ => none
  | .scr _ => some "list"
  | _ => none
/-- the program's own classes -/
def clsL : List Str := ["Answer", "Shared", "Crowd", "Even", "Chain", "Side"]
def isSub (c d : Str) : Bool := decide (c = d) || decide (d = ("Answer" : Str))
def fIsi : List Va → Sto → R Va
  | [x, .ty u], S => match tyB S x with
    | some t => match kitB t u with
      | some b => .ok (.bl b) S
      | none => .no
    | none => .no
  | _, _ => .no
/-- isinstance(x, C), C an own class -/
def fIsiC : List Va → Sto → R Va
  | [.ref n, .gl d], S => match S[n]? with
    | some (.obj c _) => if c ∈ clsL ∧ d ∈ clsL then .ok (.bl (isSub c d)) S else .no
    | _ => .no
  | _, _ => .no
def fLen : List Va → Sto → R Va
  | [x], S => match getQ S x with
    | some xs => .ok (.int xs.length) S
    | none => .no
  | _, _ => .no
def fList : List Va → Sto → R Va
  | [x], S => match getQ S x with
    | some xs => .ok (.ref S.length) (S ++ [.lst xs])
    | none => .no
  | _, _ => .no
def fTuple : List Va → Sto → R Va
  | [x], S => match getL S x with
    | some xs => .ok (.ref S.length) (S ++ [.tup xs])
    | none => .no
  | _, _ => .no
def fSum : List Va → Sto → R Va
  | [x], S => match (getL S x).bind asIs with
    | some ns => .ok (.int ns.sum) S
    | none => .no
  | _, _ => .no
def fAll : List Va → Sto → R Va
  | [x], S => match (getL S x).bind asBs with
    | some ns => .ok (.bl (ns.all id)) S
    | none => .no
  | _, _ => .no
def fAny : List Va → Sto → R Va
  | [x], S => match (getL S x).bind asBs with
    | some ns => .ok (.bl (ns.any id)) S
    | none => .no
  | _, _ => .no
def maxL : List Int → Option Int
  | [] => none
  | x :: r => some (r.foldl max x)
def fMax : List Va → Sto → R Va
  | [.int i, .int j], S => .ok (.int (max i j)) S
  | [x], S => match ((getL S x).bind asIs).bind maxL with
    | some m => .ok (.int m) S
    | none => .no
  | _, _ => .no
def fMin : List Va → Sto → R Va
  | [.int i, .int j], S => .ok (.int (min i j)) S
  | _, _ => .no
def fAbs : List Va → Sto → R Va
  | [.int i], S => .ok (.int (i.natAbs : Int)) S
  | _, _ => .no
/-- in order -/
def srt (xs : List Int) : List Int := xs.mergeSort fun a b => decide (a ≤ b)
/-- each once -/
def dd : List Int → List Int
  | [] => []
  | x :: r => if x ∈ r then dd r else x :: dd r
def keysOf (S : Sto) : Va → Option (List Int)
  | .ref n => match S[n]? with
    | some (.dic es) => some (es.map (·.1))
    | _ => none
  | _ => none
def fSorted : List Va → Sto → R Va
  | [x], S => match (getL S x).bind asIs with
    | some ns => .ok (.ref S.length) (S ++ [.lst ((srt ns).map .int)])
    | none => .no
  | _, _ => .no
def fSortedD : List Va → Sto → R Va
  | [x], S => match keysOf S x with
    | some ns => if ns.length < 64 then .ok (.ref S.length) (S ++ [.lst ((srt ns).map .int)]) else .no
    | none => .no
  | _, _ => .no
/-- sorted(set(x)), len(set(x)) -/
def fSortedSet : List Va → Sto → R Va
  | [x], S => match (getL S x).bind asIs with
    | some ns => if ns.length < 64 then .ok (.ref S.length) (S ++ [.lst ((srt (dd ns)).map .int)]) else .no
    | none => .no
  | _, _ => .no
def fLenSet : List Va → Sto → R Va
  | [x], S => match (getL S x).bind asIs with
    | some ns => if ns.length ≤ 1000 then .ok (.int (dd ns).length) S else .no
    | none => .no
  | _, _ => .no
/-! methods of lists -/
def iBM (f : Va → List Va → Sto → R Va) (o : IE) (a : IA) : IE := fun ρ S => (o ρ S).bind fun x S1 => match getL S1 x with
  | some _ => (a ρ S1).bind fun xs S2 => f x xs S2
  | none => .no
def mAppend : Va → List Va → Sto → R Va
  | .ref n, [y], S => match S[n]? with
    | some (.lst xs) => if xs.length < 100000 then .ok .non (S.set n (.lst (xs ++ [y]))) else .no
    | _ => .no
  | _, _, _ => .no
def mExtend : Va → List Va → Sto → R Va
  | .ref n, [.ref m], S => match S[n]?, S[m]? with
    | some (.lst xs), some (.lst ys) => if xs.length + ys.length ≤ 100000 then .ok .non (S.set n (.lst (xs ++ ys))) else .no
    | _, _ => .no
  | _, _, _ => .no
def mPop : Va → List Va → Sto → R Va
  | .ref n, [], S => match S[n]? with
    | some (.lst xs) => match xs[xs.length - 1]? with
      | some y => .ok y (S.set n (.lst xs.dropLast))
      | none => .no
    | _ => .no
  | _, _, _ => .no
def mReverse : Va → List Va → Sto → R Va
  | .ref n, [], S => match S[n]? with
    | some (.lst xs) => .ok .non (S.set n (.lst xs.reverse))
    | _ => .no
  | _, _, _ => .no
def mIndex : Va → List Va → Sto → R Va
  | x, [y], S => match getL S x with
    | some xs => if flatA y = true ∧ xs.all flatA = true then match xs.findIdx? (fun z => eqA z y) with
      | some j => .ok (.int j) S
      | none => .no
      else .no
    | none => .no
  | _, _, _ => .no
def mCount : Va → List Va → Sto → R Va
  | x, [.bl b], S => match (getL S x).bind asBs with
    | some bs => .ok (.int (bs.count b)) S
    | none => .no
  | _, _, _ => .no
/-! xs[lo:hi], xs[::-1] -/
def cut {α : Type} (xs : List α) (lo hi : Option Int) : List α := (xs.drop (HT.sIx xs.length 0 lo)).take (HT.sIx xs.length xs.length hi - HT.sIx xs.length 0 lo)
abbrev IO := Env → Sto → R (Option Int)
def iNoPart : IO := fun _ S => .ok none S
def iPart (a : IE) : IO := fun ρ S => (a ρ S).bind fun x S1 => match x with
  | .int i => .ok (some i) S1
  | _ => .no
def iSl (a : IE) (lo hi : IO) : IE := fun ρ S => (a ρ S).bind fun x S1 => (lo ρ S1).bind fun l S2 => (hi ρ S2).bind fun h S3 => match getL S3 x with
  | some xs => .ok (.ref S3.length) (S3 ++ [.lst (cut xs l h)])
  | none => .no
def iRev (a : IE) : IE := fun ρ S => (a ρ S).bind fun x S1 => match getL S1 x with
  | some xs => .ok (.ref S1.length) (S1 ++ [.lst xs.reverse])
  | none => .no
/-! dicts of int keys -/
def lkD (es : List (Int × Va)) (k : Int) : Option Va := (es.find? fun e => decide (e.1 = k)).map (·.2)
def putD (es : List (Int × Va)) (k : Int) (d : Va) : List (Int × Va) := if (es.any fun e => decide (e.1 = k)) = true then es.map (fun e => if e.1 = k then (e.1, d) else e) else es ++ [(k, d)]
def getD (S : Sto) : Va → Option (List (Int × Va))
  | .ref n => match S[n]? with
    | some (.dic es) => some es
    | _ => none
  | _ => none
def iDNew : IE := fun _ S => .ok (.ref S.length) (S ++ [.dic []])
def iDGet (a b : IE) : IE := iOp (fun x y S => match getD S x, y with
  | some es, .int k => match lkD es k with
    | some v => .ok v S
    | none => .no
  | _, _ => .no) a b
def iDIn (neg : Bool) (a b : IE) : IE := iOp (fun y x S => match getD S x, y with
  | some es, .int k => .ok (.bl (if neg then !(lkD es k).isSome else (lkD es k).isSome)) S
  | _, _ => .no) a b
/-- {k: v} -/
def iDisp1 (a b : IE) : IE := fun ρ S => (a ρ S).bind fun x S1 => (b ρ S1).bind fun y S2 => match x with
  | .int k => .ok (.ref S2.length) (S2 ++ [.dic [(k, y)]])
  | _ => .no
/-! fields -/
def getO (S : Sto) : Va → Option (Str × List (Str × Va))
  | .ref n => match S[n]? with
    | some (.obj c fs) => some (c, fs)
    | _ => none
  | _ => none
def iFld (a : IE) (f : Str) : IE := fun ρ S => (a ρ S).bind fun x S1 => match getO S1 x with
  | some (c, fs) => if c ∈ clsL then match fs.lookup f with
      | some v => .ok v S1
      | none => .no
    else .no
  | none => .no
/-- list(range(a)) -/
def rng (a b : Int) : List Int := (List.range (b - a).toNat).map fun (i : Nat) => a + (i : Int)
def iListRg (a : IE) : IE := fun ρ S => (a ρ S).bind fun x S1 => match x with
  | .int n => if 0 ≤ n ∧ n ≤ 100000 then .ok (.ref S1.length) (S1 ++ [.lst ((rng 0 n).map .int)]) else .no
  | _ => .no
/-! ### what is walked, targets -/
inductive It1 where
  | one (v : Va) | tup (vs : List Va)
structure Its where
  items : List It1
  chk : Sto → Bool
abbrev II := Env → Sto → R Its
abbrev IG := It1 → Env → Sto → R Env
def sameAt (S : Sto) : Va → Sto → Bool
  | .ref n => fun S' => decide (S'[n]? = S[n]?)
  | _ => fun _ => true
def itList (a : IE) : II := fun ρ S => (a ρ S).bind fun x S1 => match getL S1 x with
  | some xs => .ok ⟨xs.map .one, sameAt S1 x⟩ S1
  | none => .no
def itTup (a : IE) : II := fun ρ S => (a ρ S).bind fun x S1 => match getT S1 x with
  | some xs => .ok ⟨xs.map .one, sameAt S1 x⟩ S1
  | none => .no
def itRng (a : IE) : II := fun ρ S => (a ρ S).bind fun x S1 => match x with
  | .int n => if -100000 ≤ n ∧ n ≤ 100000 then .ok ⟨(rng 0 n).map fun i => .one (.int i), fun _ => true⟩ S1 else .no
  | _ => .no
def enuI : Nat → List Va → List It1
  | _, [] => []
  | k, x :: xs => .tup [.int (k : Int), x] :: enuI (k + 1) xs
def itEnum (a : IE) : II := fun ρ S => (a ρ S).bind fun x S1 => match getL S1 x with
  | some xs => .ok ⟨enuI 0 xs, sameAt S1 x⟩ S1
  | none => .no
def zipI : List Va → List Va → List It1
  | x :: xs, y :: ys => .tup [x, y] :: zipI xs ys
  | _, _ => []
def itZip (a b : IE) : II := fun ρ S => (a ρ S).bind fun x S1 => (b ρ S1).bind fun y S2 => match getL S2 x, getL S2 y with
  | some xs, some ys => .ok ⟨zipI xs ys, fun S => sameAt S2 x S && sameAt S2 y S⟩ S2
  | _, _ => .no
def tgName (j : Nat) : IG
  | .one v, ρ, S => .ok (ρ.set j (some v)) S
  | .tup _, _, _ => .no
def setL (o i v : Va) (S : Sto) : R Unit := match o, i with
  | .ref n, .int k => match S[n]? with
    | some (.lst xs) => match ixN xs.length k with
      | some j => .ok () (S.set n (.lst (xs.set j v)))
      | none => .no
    | _ => .no
  | _, _ => .no
def tgSub (o i : IE) : IG
  | .one v, ρ, S => (o ρ S).bind fun x S1 => (i ρ S1).bind fun y S2 => (setL x y v S2).bind fun _ S3 => .ok ρ S3
  | .tup _, _, _ => .no
def runTgs : List IG → List Va → Env → Sto → R Env
  | [], [], ρ, S => .ok ρ S
  | t :: ts, v :: vs, ρ, S => (t (.one v) ρ S).bind fun ρ1 S1 => runTgs ts vs ρ1 S1
  | _, _, _, _ => .no
def tgTupN (n : Nat) (ts : List IG) : IG
  | .tup vs, ρ, S => if vs.length = n then runTgs ts vs ρ S else .no
  | .one v, ρ, S => match getT S v with
    | some vs => if vs.length = n then runTgs ts vs ρ S else .no
    | none => .no
/-! ### comprehensions -/
def R.bindN {α β : Type} (r : R α) (k : α → Sto → R β) : R β := match r with
  | .ok a S => k a S
  | _ => .no
@[simp] theorem R.bindN_ok {α β : Type} {a : α} {S : Sto} {k : α → Sto → R β} : (R.ok a S).bindN k = k a S := rfl
@[simp] theorem R.bindN_ex {α β : Type} {c : Str} {S : Sto} {k : α → Sto → R β} : (R.ex c S).bindN k = .no := rfl
@[simp] theorem R.bindN_no {α β : Type} {k : α → Sto → R β} : (R.no).bindN k = .no := rfl
def lcL (chk : Sto → Bool) (tg : IG) (tt : IT) (ie : IE) (ρ : Env) : List It1 → Sto → R (List Va)
  | [], S => if chk S = true then .ok [] S else .no
  | it :: r, S => if chk S = true then (tg it ρ S).bindN fun ρ1 S1 => (tt ρ1 S1).bindN fun b S2 => if b = true then (ie ρ1 S2).bindN fun y S3 => (lcL chk tg tt ie ρ r S3).bindN fun ys S4 => .ok (y :: ys) S4
    else lcL chk tg tt ie ρ r S2 else .no
def wipeE (ρ : Env) : List Nat → Env
  | [] => ρ
  | v :: vs => (wipeE ρ vs).set v none
def iLc (ii : II) (tg : IG) (tt : IT) (ie : IE) (vs : List Nat) : IE := fun ρ S => (ii ρ S).bind fun I S1 => if I.items.length ≤ 100000 then
  (lcL I.chk tg tt ie (wipeE ρ vs) I.items S1).bindN fun ys S2 => .ok (.ref S2.length) (S2 ++ [.lst ys]) else .no
/-- over a dict's keys: it is out of sight meanwhile -/
def iLcK (d : Nat) (tg : IG) (tt : IT) (ie : IE) (vs : List Nat) : IE := fun ρ S => match ρ[d]? with
  | some (some (.ref n)) => match S[n]? with
    | some (.dic es) => if es.length ≤ 100000 then (lcL (fun _ => true) tg tt ie (wipeE ρ vs) (es.map fun e => .one (.int e.1)) (S.set n .hid)).bindN fun ys S2 => .ok (.ref S2.length) (S2.set n (.dic es) ++ [.lst ys]) else .no
    | _ => .no
  | _ => .no
/-! ### statements -/
theorem R.bindN_assoc {α β γ : Type} {r : R α} {k : α → Sto → R β} {m : β → Sto → R γ} : (r.bindN k).bindN m = r.bindN fun x S => (k x S).bindN m := by cases r <;> rfl
def R.toO {α : Type} (r : R α) (ρ : Env) (k : α → Sto → O) : O := match r with
  | .ok a S => k a S
  | .ex c S => .ex c ρ S
  | .no => .no
@[simp] theorem R.toO_ok {α : Type} {a : α} {S : Sto} {ρ : Env} {k : α → Sto → O} : (R.ok a S).toO ρ k = k a S := rfl
@[simp] theorem R.toO_ex {α : Type} {c : Str} {S : Sto} {ρ : Env} {k : α → Sto → O} : (R.ex c S).toO ρ k = .ex c ρ S := rfl
@[simp] theorem R.toO_no {α : Type} {ρ : Env} {k : α → Sto → O} : (R.no).toO ρ k = .no := rfl
def O.seq (o : O) (k : IS) : O := match o with
  | .nx ρ S => k ρ S
  | o => o
@[simp] theorem O.seq_nx {ρ : Env} {S : Sto} {k : IS} : (O.nx ρ S).seq k = k ρ S := rfl
@[simp] theorem O.seq_rt {v : Va} {S : Sto} {k : IS} : (O.rt v S).seq k = .rt v S := rfl
@[simp] theorem O.seq_ex {c : Str} {ρ : Env} {S : Sto} {k : IS} : (O.ex c ρ S).seq k = .ex c ρ S := rfl
@[simp] theorem O.seq_no {k : IS} : O.no.seq k = .no := rfl
def sNext : IS := fun ρ S => .nx ρ S
def sSeq (a b : IS) : IS := fun ρ S => (a ρ S).seq b
def sAsg (e : IE) (tg : IG) : IS := fun ρ S => (e ρ S).toO ρ fun x S1 => (tg (.one x) ρ S1).toO ρ fun ρ' S2 => .nx ρ' S2
def sPar (i j : Nat) (a : IA) : IS := fun ρ S => (a ρ S).toO ρ fun xs S1 => match xs with
  | [x, y] => .nx ((ρ.set i (some x)).set j (some y)) S1
  | _ => .no
def sPar3 (i j l : Nat) (a : IA) : IS := fun ρ S => (a ρ S).toO ρ fun xs S1 => match xs with
  | [x, y, z] => .nx (((ρ.set i (some x)).set j (some y)).set l (some z)) S1
  | _ => .no
def sExpr (e : IE) : IS := fun ρ S => (e ρ S).toO ρ fun _ S1 => .nx ρ S1
def sRet (e : IE) : IS := fun ρ S => (e ρ S).toO ρ fun x S1 => .rt x S1
def sRetN : IS := fun ρ S => .rt .non S
def sIf (c : IT) (a b : IS) : IS := fun ρ S => (c ρ S).toO ρ fun k S1 => if k = true then a ρ S1 else b ρ S1
def sRaise (c : Str) : IS := fun ρ S => .ex c ρ S
def putF (f : Str) (v : Va) : List (Str × Va) → List (Str × Va)
  | [] => [(f, v)]
  | p :: r => if p.1 = f then (f, v) :: r else p :: putF f v r
def sFldSet (o : IE) (f : Str) (e : IE) : IS := fun ρ S => (e ρ S).toO ρ fun v S1 => (o ρ S1).toO ρ fun x S2 => match x with
  | .ref n => match S2[n]? with
    | some (.obj c fs) => if c ∈ clsL ∧ fs.length < 100 then .nx ρ (S2.set n (.obj c (putF f v fs))) else .no
    | _ => .no
  | _ => .no
def sDSet (d k e : IE) : IS := fun ρ S => (e ρ S).toO ρ fun v S1 => (d ρ S1).toO ρ fun x S2 => (k ρ S2).toO ρ fun y S3 => match x, y with
  | .ref n, .int i => match S3[n]? with
    | some (.dic es) => if es.length < 100000 then .nx ρ (S3.set n (.dic (putD es i v))) else .no
    | _ => .no
  | _, _ => .no
def sAug (i : Nat) (e : IE) : IS := fun ρ S => match ρ[i]? with
  | some (some (.int x)) => (e ρ S).toO ρ fun y S1 => match y with
    | .int j => .nx (ρ.set i (some (.int (x + j)))) S1
    | _ => .no
  | _ => .no
def sAugS (o i e : IE) : IS := fun ρ S => (o ρ S).toO ρ fun x S1 => (i ρ S1).toO ρ fun y S2 => (fIxL x y S2).toO ρ fun z S3 => (e ρ S3).toO ρ fun w S4 => match z, w with
  | .int a, .int b => (setL x y (.int (a + b)) S4).toO ρ fun _ S5 => .nx ρ S5
  | _, _ => .no
def forL (chk : Sto → Bool) (tg : IG) (body : IS) : List It1 → IS
  | [], ρ, S => if chk S = true then .nx ρ S else .no
  | it :: r, ρ, S => if chk S = true then ((tg it ρ S).toO ρ fun ρ1 S1 => body ρ1 S1).seq (forL chk tg body r) else .no
def sFor (ii : II) (tg : IG) (body : IS) : IS := fun ρ S => (ii ρ S).toO ρ fun I S1 => forL I.chk tg body I.items ρ S1
def whF (c : IT) (body : IS) : Nat → IS
  | 0, _, _ => .no
  | n + 1, ρ, S => (c ρ S).toO ρ fun k S1 => if k = true then (body ρ S1).seq (whF c body n) else .nx ρ S1
open Classical in
noncomputable def sWhile (c : IT) (body : IS) : IS := fun ρ S => if h : ∃ n, whF c body n ρ S ≠ .no then whF c body h.choose ρ S else .no
/-! ### defs -/
def O.val : O → R Va
  | .nx _ S => .ok .non S
  | .rt v S => .ok v S
  | .ex c _ S => .ex c S
  | .no => .no
def mkFn (p n : Nat) (body : IS) : Fn := fun xs S => if xs.length = p then (body (xs.map some ++ List.replicate (n - xs.length) none) S).val else .no
def iCall (f : Fn) (a : IA) : IE := fun ρ S => (a ρ S).bind f
def iMake (c : Str) (f : Fn) (a : IA) : IE := fun ρ S => (a ρ S).bind fun xs S1 => (f (.ref S1.length :: xs) (S1 ++ [.obj c []])).bind fun v S2 => match v with
  | .non => .ok (.ref S1.length) S2
  | _ => .no
def iMeth (c : Str) (m : Str) (f : Fn) (o : IE) (a : IA) : IE := fun ρ S => (o ρ S).bind fun x S1 => match getO S1 x with
  | some (c', fs) => if c' = c ∧ fs.lookup m = none then (a ρ S1).bind fun xs S2 => f (x :: xs) S2 else .no
  | none => .no
/-- by the class -/
def iIs (c : Str) (o : IE) (i j : IE) : IE := fun ρ S => match o ρ S with
  | .ok x S1 => match getO S1 x with
    | some (c', _) => if c' = c then i ρ S else j ρ S
    | none => .no
  | _ => .no
end IL

end
section
set_option linter.all false
set_option maxRecDepth 100000
namespace IL
open PySem L2
/-! ### one step of the machine, for simp -/
section
variable {ρ : Env} {S : Sto} {a b c o e : IE} {t u : IT} {i j : IS} {A : IA} {f : Str}
@[simp] theorem x_var {k : Nat} : iVar k ρ S = match ρ[k]? with | some (some v) => .ok v S | _ => .no := rfl
@[simp] theorem x_c {v : Va} : iC v ρ S = .ok v S := rfl
@[simp] theorem x_op {f : Va → Va → Sto → R Va} : iOp f a b ρ S = (a ρ S).bind fun x S1 => (b ρ S1).bind fun y S2 => f x y S2 := rfl
@[simp] theorem x_un {f : Va → Sto → R Va} : iUn f a ρ S = (a ρ S).bind fun x S1 => f x S1 := rfl
@[simp] theorem x_nil : iNil ρ S = .ok [] S := rfl
@[simp] theorem x_cons : iCons a A ρ S = (a ρ S).bind fun x S1 => (A ρ S1).bind fun xs S2 => .ok (x :: xs) S2 := rfl
@[simp] theorem x_lst : iLst A ρ S = (A ρ S).bind fun xs S1 => .ok (.ref S1.length) (S1 ++ [.lst xs]) := rfl
@[simp] theorem x_tup : IL.iTup A ρ S = (A ρ S).bind fun xs S1 => .ok (.ref S1.length) (S1 ++ [.tup xs]) := rfl
@[simp] theorem x_cb {f : List Va → Sto → R Va} : iCB f A ρ S = (A ρ S).bind fun xs S1 => f xs S1 := rfl
@[simp] theorem x_asB {k : Bool} : asB (.bl k) S = .ok k S := rfl
@[simp] theorem x_B : iB a ρ S = (a ρ S).bind asB := rfl
@[simp] theorem x_and : iAnd t u ρ S = (t ρ S).bind fun c S1 => if c = true then u ρ S1 else .ok false S1 := rfl
@[simp] theorem x_or : IL.iOr t u ρ S = (t ρ S).bind fun c S1 => if c = true then .ok true S1 else u ρ S1 := rfl
@[simp] theorem x_not : iNot t ρ S = (t ρ S).bind fun c S1 => .ok (!c) S1 := rfl
@[simp] theorem x_yes : iYes ρ S = .ok true S := rfl
@[simp] theorem x_andV : iAndV a b ρ S = (a ρ S).bind fun x S1 => (asB x S1).bind fun c S1 => if c = true then b ρ S1 else .ok (.bl false) S1 := rfl
@[simp] theorem x_orV : iOrV a b ρ S = (a ρ S).bind fun x S1 => (asB x S1).bind fun c S1 => if c = true then .ok (.bl true) S1 else b ρ S1 := rfl
@[simp] theorem x_notV : iNotV a ρ S = (a ρ S).bind fun x S1 => (asB x S1).bind fun c S1 => .ok (.bl (!c)) S1 := rfl
@[simp] theorem x_if : iIf t a b ρ S = (t ρ S).bind fun c S1 => if c = true then a ρ S1 else b ρ S1 := rfl
@[simp] theorem x_chain {f f' : Va → Va → Sto → R Va} : iChain f f' a b c ρ S = (a ρ S).bind fun x S1 => (b ρ S1).bind fun y S2 => (f x y S2).bind fun z S3 => (asB z S3).bind fun k S3 => if k = true then (c ρ S3).bind fun w S4 => f' y w S4 else .ok (.bl false) S3 := rfl
@[simp] theorem x_II {k : Int → Int → Va} {x y : Int} : fII k (.int x) (.int y) S = .ok (k x y) S := rfl
@[simp] theorem x_add {x y : Int} : fAdd (.int x) (.int y) S = .ok (.int (x + y)) S := rfl
@[simp] theorem x_bm {f : Va → List Va → Sto → R Va} : iBM f o A ρ S = (o ρ S).bind fun x S1 => match getL S1 x with | some _ => (A ρ S1).bind fun xs S2 => f x xs S2 | none => .no := rfl
@[simp] theorem x_noPart : iNoPart ρ S = .ok none S := rfl
@[simp] theorem x_part : iPart a ρ S = (a ρ S).bind fun x S1 => match x with | .int i => .ok (some i) S1 | _ => .no := rfl
@[simp] theorem x_sl {lo hi : IL.IO} : iSl a lo hi ρ S = (a ρ S).bind fun x S1 => (lo ρ S1).bind fun l S2 => (hi ρ S2).bind fun h S3 => match getL S3 x with | some xs => .ok (.ref S3.length) (S3 ++ [.lst (cut xs l h)]) | none => .no := rfl
@[simp] theorem x_rev : iRev a ρ S = (a ρ S).bind fun x S1 => match getL S1 x with | some xs => .ok (.ref S1.length) (S1 ++ [.lst xs.reverse]) | none => .no := rfl
@[simp] theorem x_dnew : iDNew ρ S = .ok (.ref S.length) (S ++ [.dic []]) := rfl
@[simp] theorem x_fld : iFld a f ρ S = (a ρ S).bind fun x S1 => match getO S1 x with | some (c, fs) => if c ∈ clsL then match fs.lookup f with | some v => .ok v S1 | none => .no else .no | none => .no := rfl
@[simp] theorem x_listRg : iListRg a ρ S = (a ρ S).bind fun x S1 => match x with | .int n => if 0 ≤ n ∧ n ≤ 100000 then .ok (.ref S1.length) (S1 ++ [.lst ((rng 0 n).map .int)]) else .no | _ => .no := rfl
@[simp] theorem x_itList : itList a ρ S = (a ρ S).bind fun x S1 => match getL S1 x with | some xs => .ok ⟨xs.map .one, sameAt S1 x⟩ S1 | none => .no := rfl
@[simp] theorem x_itTup : itTup a ρ S = (a ρ S).bind fun x S1 => match getT S1 x with | some xs => .ok ⟨xs.map .one, sameAt S1 x⟩ S1 | none => .no := rfl
@[simp] theorem x_itRng : itRng a ρ S = (a ρ S).bind fun x S1 => match x with | .int n => if -100000 ≤ n ∧ n ≤ 100000 then .ok ⟨(rng 0 n).map fun i => .one (.int i), fun _ => true⟩ S1 else .no | _ => .no := rfl
@[simp] theorem x_itEnum : itEnum a ρ S = (a ρ S).bind fun x S1 => match getL S1 x with | some xs => .ok ⟨enuI 0 xs, sameAt S1 x⟩ S1 | none => .no := rfl
@[simp] theorem x_itZip : itZip a b ρ S = (a ρ S).bind fun x S1 => (b ρ S1).bind fun y S2 => match getL S2 x, getL S2 y with | some xs, some ys => .ok ⟨zipI xs ys, fun S => sameAt S2 x S && sameAt S2 y S⟩ S2 | _, _ => .no := rfl
@[simp] theorem x_tgName {k : Nat} {v : Va} : tgName k (.one v) ρ S = .ok (ρ.set k (some v)) S := rfl
@[simp] theorem x_tgSub {v : Va} : tgSub a b (.one v) ρ S = (a ρ S).bind fun x S1 => (b ρ S1).bind fun y S2 => (setL x y v S2).bind fun _ S3 => .ok ρ S3 := rfl
@[simp] theorem x_tgTup {n : Nat} {ts : List IG} {vs : List Va} : tgTupN n ts (.tup vs) ρ S = if vs.length = n then runTgs ts vs ρ S else .no := rfl
@[simp] theorem x_tgTup1 {n : Nat} {ts : List IG} {v : Va} : tgTupN n ts (.one v) ρ S = match getT S v with | some vs => if vs.length = n then runTgs ts vs ρ S else .no | none => .no := rfl
@[simp] theorem x_run0 : runTgs [] [] ρ S = .ok ρ S := rfl
@[simp] theorem x_run1 {t : IG} {ts : List IG} {v : Va} {vs : List Va} : runTgs (t :: ts) (v :: vs) ρ S = (t (.one v) ρ S).bind fun ρ1 S1 => runTgs ts vs ρ1 S1 := rfl
@[simp] theorem x_wipe0 : wipeE ρ [] = ρ := rfl
@[simp] theorem x_wipe1 {v : Nat} {vs : List Nat} : wipeE ρ (v :: vs) = (wipeE ρ vs).set v none := rfl
@[simp] theorem x_next : sNext ρ S = .nx ρ S := rfl
@[simp] theorem x_seq : sSeq i j ρ S = (i ρ S).seq j := rfl
@[simp] theorem x_asg {tg : IG} : sAsg e tg ρ S = (e ρ S).toO ρ fun x S1 => (tg (.one x) ρ S1).toO ρ fun ρ' S2 => .nx ρ' S2 := rfl
@[simp] theorem x_par {k l : Nat} : sPar k l A ρ S = (A ρ S).toO ρ fun xs S1 => match xs with | [x, y] => .nx ((ρ.set k (some x)).set l (some y)) S1 | _ => .no := rfl
@[simp] theorem x_par3 {k l m : Nat} : sPar3 k l m A ρ S = (A ρ S).toO ρ fun xs S1 => match xs with | [x, y, z] => .nx (((ρ.set k (some x)).set l (some y)).set m (some z)) S1 | _ => .no := rfl
@[simp] theorem x_expr : sExpr e ρ S = (e ρ S).toO ρ fun _ S1 => .nx ρ S1 := rfl
@[simp] theorem x_ret : sRet e ρ S = (e ρ S).toO ρ fun x S1 => .rt x S1 := rfl
@[simp] theorem x_retN : sRetN ρ S = .rt .non S := rfl
@[simp] theorem x_sif : sIf t i j ρ S = (t ρ S).toO ρ fun k S1 => if k = true then i ρ S1 else j ρ S1 := rfl
@[simp] theorem x_aug {k : Nat} : sAug k e ρ S = match ρ[k]? with | some (some (.int x)) => ((e ρ S).toO ρ fun y S1 => (match y with | .int j => .nx (ρ.set k (some (.int (x + j)))) S1 | _ => .no)) | _ => .no := rfl
@[simp] theorem x_augS : sAugS o a e ρ S = (o ρ S).toO ρ fun x S1 => (a ρ S1).toO ρ fun y S2 => (fIxL x y S2).toO ρ fun z S3 => (e ρ S3).toO ρ fun w S4 => match z, w with | .int a, .int b => (setL x y (.int (a + b)) S4).toO ρ fun _ S5 => .nx ρ S5 | _, _ => .no := rfl
@[simp] theorem x_for {ii : II} {tg : IG} : sFor ii tg i ρ S = (ii ρ S).toO ρ fun I S1 => forL I.chk tg i I.items ρ S1 := rfl
@[simp] theorem x_val_nx : (O.nx ρ S).val = .ok .non S := rfl
@[simp] theorem x_val_rt {v : Va} : (O.rt v S).val = .ok v S := rfl
@[simp] theorem x_call {F : Fn} : iCall F A ρ S = (A ρ S).bind F := rfl
@[simp] theorem x_raise : sRaise f ρ S = .ex f ρ S := rfl
@[simp] theorem x_val_ex : (O.ex f ρ S).val = .ex f S := rfl
@[simp] theorem x_isi {x : Va} {s : String} : fIsi [x, .ty s] S = match tyB S x with | some t => (match kitB t s with | some b => .ok (.bl b) S | none => .no) | none => .no := rfl
theorem mk1 {n : Nat} {x : Va} {b : IS} : mkFn 1 n b [x] S = (b (some x :: List.replicate (n - 1) none) S).val := rfl
theorem mk2 {n : Nat} {x y : Va} {b : IS} : mkFn 2 n b [x, y] S = (b (some x :: some y :: List.replicate (n - 2) none) S).val := rfl
theorem mk3 {n : Nat} {x y z : Va} {b : IS} : mkFn 3 n b [x, y, z] S = (b (some x :: some y :: some z :: List.replicate (n - 3) none) S).val := rfl
theorem mk4 {n : Nat} {x y z w : Va} {b : IS} : mkFn 4 n b [x, y, z, w] S = (b (some x :: some y :: some z :: some w :: List.replicate (n - 4) none) S).val := rfl
theorem mk5 {n : Nat} {x y z w v : Va} {b : IS} : mkFn 5 n b [x, y, z, w, v] S = (b (some x :: some y :: some z :: some w :: some v :: List.replicate (n - 5) none) S).val := rfl
end
/-! ### plain stores -/
theorem get_app {S T : Sto} {n : Nat} {o : Ob} (h : S[n]? = some o) : (S ++ T)[n]? = some o := by
  rw [List.getElem?_append_left (List.getElem?_eq_some_iff.mp h).1]; exact h
theorem get_n0 {S T : Sto} {o : Ob} : (S ++ o :: T)[S.length]? = some o := by simp
theorem get_n1 {S T : Sto} {o a : Ob} : (S ++ a :: o :: T)[S.length + 1]? = some o := by
  rw [List.getElem?_append_right (by omega), show S.length + 1 - S.length = 1 by omega]; rfl
theorem get_n2 {S T : Sto} {o a b : Ob} : (S ++ a :: b :: o :: T)[S.length + 2]? = some o := by
  rw [List.getElem?_append_right (by omega), show S.length + 2 - S.length = 2 by omega]; rfl
theorem get_n3 {S T : Sto} {o a b c : Ob} : (S ++ a :: b :: c :: o :: T)[S.length + 3]? = some o := by
  rw [List.getElem?_append_right (by omega), show S.length + 3 - S.length = 3 by omega]; rfl
theorem set_n0 {S T : Sto} {o o' : Ob} : (S ++ o :: T).set S.length o' = S ++ o' :: T := by
  rw [List.set_append_right _ _ (by omega), Nat.sub_self]; rfl
theorem set_n1 {S T : Sto} {o o' a : Ob} : (S ++ a :: o :: T).set (S.length + 1) o' = S ++ a :: o' :: T := by
  rw [List.set_append_right _ _ (by omega), show S.length + 1 - S.length = 1 by omega]; rfl
theorem set_n2 {S T : Sto} {o o' a b : Ob} : (S ++ a :: b :: o :: T).set (S.length + 2) o' = S ++ a :: b :: o' :: T := by
  rw [List.set_append_right _ _ (by omega), show S.length + 2 - S.length = 2 by omega]; rfl
theorem set_n3 {S T : Sto} {o o' a b c : Ob} : (S ++ a :: b :: c :: o :: T).set (S.length + 3) o' = S ++ a :: b :: c :: o' :: T := by
  rw [List.set_append_right _ _ (by omega), show S.length + 3 - S.length = 3 by omega]; rfl
/-! ### types -/
theorem kit_ii : kitB "int" "int" = some true := by decide +kernel
theorem kit_ib : kitB "int" "bool" = some false := by decide +kernel
theorem kit_ll : kitB "list" "list" = some true := by decide +kernel
theorem kit_tt : kitB "tuple" "tuple" = some true := by decide +kernel
/-! ### loops -/
def gO (G : O → Prop) (Inv : Env → Sto → Prop) : O → Prop
  | .nx ρ S => Inv ρ S
  | o => G o
theorem for_rule {chk : Sto → Bool} {tg : IG} {body : IS} {G : O → Prop} (Inv : Nat → Env → Sto → Prop) : ∀ (its : List It1) (k : Nat) (ρ : Env) (S : Sto), Inv k ρ S →
    (∀ j it ρ S, its[j]? = some it → Inv (k + j) ρ S → chk S = true ∧ ∃ ρ1 S1, tg it ρ S = .ok ρ1 S1 ∧ gO G (Inv (k + j + 1)) (body ρ1 S1)) →
    (∀ ρ S, Inv (k + its.length) ρ S → chk S = true ∧ G (.nx ρ S)) → G (forL chk tg body its ρ S)
  | [], k, ρ, S, h, _, he => by
    obtain ⟨h1, h2⟩ := he ρ S h
    simp only [forL, h1, if_true]; exact h2
  | it :: r, k, ρ, S, h, hs, he => by
    obtain ⟨h1, ρ1, S1, h2, h3⟩ := hs 0 it ρ S rfl h
    simp only [forL, h1, if_true, h2, R.toO_ok]
    cases hb : body ρ1 S1 with
    | nx ρ2 S2 =>
      rw [hb] at h3
      rw [O.seq_nx]
      refine for_rule Inv r (k + 1) ρ2 S2 h3 (fun j it' ρ' S' e i => ?_) fun ρ' S' i => ?_
      · have := hs (j + 1) it' ρ' S' (by simpa using e) (by rw [show k + (j + 1) = k + 1 + j by omega]; exact i)
        rw [show k + (j + 1) + 1 = k + 1 + j + 1 by omega] at this
        exact this
      · exact he ρ' S' (by rw [List.length_cons, show k + (r.length + 1) = k + 1 + r.length by omega]; exact i)
    | rt v S2 => rw [hb] at h3; exact h3
    | ex c ρ2 S2 => rw [hb] at h3; exact h3
    | no => rw [hb] at h3; exact h3
/-- a for that runs through -/
theorem for_nx {chk : Sto → Bool} {tg : IG} {body : IS} (Inv : Nat → Env → Sto → Prop) (its : List It1) (ρ : Env) (S : Sto) (h0 : Inv 0 ρ S)
    (hs : ∀ j it ρ S, its[j]? = some it → Inv j ρ S → chk S = true ∧ ∃ ρ1 S1, tg it ρ S = .ok ρ1 S1 ∧ ∃ ρ2 S2, body ρ1 S1 = .nx ρ2 S2 ∧ Inv (j + 1) ρ2 S2)
    (he : ∀ ρ S, Inv its.length ρ S → chk S = true) : ∃ ρ' S', forL chk tg body its ρ S = .nx ρ' S' ∧ Inv its.length ρ' S' := by
  refine for_rule (G := fun o => ∃ ρ' S', o = .nx ρ' S' ∧ Inv its.length ρ' S') Inv its 0 ρ S h0 (fun j it ρ S e i => ?_) fun ρ S i => ?_
  · rw [Nat.zero_add] at i ⊢
    obtain ⟨h1, ρ1, S1, h2, ρ2, S2, h3, h4⟩ := hs j it ρ S e i
    exact ⟨h1, ρ1, S1, h2, by rw [h3]; exact h4⟩
  · rw [Nat.zero_add] at i
    exact ⟨he ρ S i, ρ, S, rfl, i⟩
theorem whF_mono {c : IT} {b : IS} : ∀ {n m : Nat} {ρ : Env} {S : Sto}, n ≤ m → whF c b n ρ S ≠ .no → whF c b m ρ S = whF c b n ρ S
  | 0, _, _, _, _, h => absurd rfl h
  | n + 1, 0, _, _, h, _ => by omega
  | n + 1, m + 1, ρ, S, hm, h => by
    unfold whF at h ⊢
    cases hc : c ρ S with
    | ok k S1 =>
      rw [hc] at h
      simp only [R.toO_ok] at h ⊢
      split
      · rename_i hk
        rw [if_pos hk] at h
        cases hb : b ρ S1 with
        | nx ρ2 S2 => rw [hb] at h; simp only [O.seq_nx] at h ⊢; exact whF_mono (by omega) h
        | rt v S2 => rfl
        | ex c' ρ2 S2 => rfl
        | no => rfl
      · rfl
    | ex c' S1 => rfl
    | no => rfl
theorem sWhile_eq {c : IT} {b : IS} {ρ : Env} {S : Sto} {n : Nat} (h : whF c b n ρ S ≠ .no) : sWhile c b ρ S = whF c b n ρ S := by
  have hx : ∃ n, whF c b n ρ S ≠ .no := ⟨n, h⟩
  unfold sWhile
  rw [dif_pos hx]
  have h2 := hx.choose_spec
  rcases Nat.le_total n hx.choose with h3 | h3
  · exact whF_mono h3 h
  · exact (whF_mono h3 h2).symm
theorem while_rule {c : IT} {body : IS} {G : O → Prop} (hno : ¬ G .no) (W : Nat → Env → Sto → Prop) (hs : ∀ m ρ S, W m ρ S → ∃ b S1, c ρ S = .ok b S1 ∧ (b = false → G (.nx ρ S1)) ∧ (b = true → gO G (fun ρ2 S2 => ∃ m', m' < m ∧ W m' ρ2 S2) (body ρ S1)))
    {m : Nat} {ρ : Env} {S : Sto} (h : W m ρ S) : G (sWhile c body ρ S) := by
  have key : ∀ (m : Nat) (ρ : Env) (S : Sto), W m ρ S → ∃ n, G (whF c body n ρ S) := by
    intro m
    induction m using Nat.strongRecOn with
    | _ m ih =>
      intro ρ S h
      obtain ⟨b, S1, h1, h2, h3⟩ := hs m ρ S h
      cases b with
      | false => exact ⟨1, by simp only [whF, h1, R.toO_ok]; exact h2 rfl⟩
      | true =>
        have h4 := h3 rfl
        cases hb : body ρ S1 with
        | nx ρ2 S2 =>
          rw [hb] at h4
          obtain ⟨m', hm, w⟩ := h4
          obtain ⟨n, hn⟩ := ih m' hm ρ2 S2 w
          exact ⟨n + 1, by simp only [whF, h1, R.toO_ok, if_true, hb, O.seq_nx]; exact hn⟩
        | rt v S2 => rw [hb] at h4; exact ⟨1, by simp only [whF, h1, R.toO_ok, if_true, hb, O.seq_rt]; exact h4⟩
        | ex e ρ2 S2 => rw [hb] at h4; exact ⟨1, by simp only [whF, h1, R.toO_ok, if_true, hb, O.seq_ex]; exact h4⟩
        | no => rw [hb] at h4; exact absurd h4 hno
  obtain ⟨n, hn⟩ := key m ρ S h
  rw [sWhile_eq (n := n) (fun z => by rw [z] at hn; exact hno hn)]
  exact hn
/-! ### comprehensions -/
/-- each item's value; the store grows by garbage -/
theorem lc_grow {chk : Sto → Bool} {tg : IG} {tt : IT} {ie : IE} {ρ : Env} {S : Sto} (p : It1 → Bool) (f : It1 → Va) (hc : ∀ T, chk (S ++ T) = true) : ∀ (its : List It1) (T : Sto),
    (∀ it ∈ its, ∀ T, ∃ ρ1 T1, tg it ρ (S ++ T) = .ok ρ1 (S ++ T) ∧ tt ρ1 (S ++ T) = .ok (p it) (S ++ T1) ∧ (p it = true → ∃ T2, ie ρ1 (S ++ T1) = .ok (f it) (S ++ T2))) →
    ∃ T', lcL chk tg tt ie ρ its (S ++ T) = .ok ((its.filter p).map f) (S ++ T')
  | [], T, _ => ⟨T, by simp [lcL, hc]⟩
  | it :: r, T, h => by
    obtain ⟨ρ1, T1, h1, h2, h3⟩ := h it List.mem_cons_self T
    cases hp : p it with
    | false =>
      obtain ⟨T', ih⟩ := lc_grow p f hc r T1 fun it' h' => h it' (List.mem_cons_of_mem _ h')
      exact ⟨T', by simp [lcL, hc, h1, h2, hp, ih]⟩
    | true =>
      obtain ⟨T2, h4⟩ := h3 hp
      obtain ⟨T', ih⟩ := lc_grow p f hc r T2 fun it' h' => h it' (List.mem_cons_of_mem _ h')
      exact ⟨T', by simp [lcL, hc, h1, h2, hp, h4, ih]⟩
/-- .. where the store stays as it is -/
theorem lc_pure {chk : Sto → Bool} {tg : IG} {tt : IT} {ie : IE} {ρ : Env} {S : Sto} (p : It1 → Bool) (f : It1 → Va) (hc : chk S = true) : ∀ (its : List It1),
    (∀ it ∈ its, ∃ ρ1, tg it ρ S = .ok ρ1 S ∧ tt ρ1 S = .ok (p it) S ∧ (p it = true → ie ρ1 S = .ok (f it) S)) → lcL chk tg tt ie ρ its S = .ok ((its.filter p).map f) S
  | [], _ => by simp [lcL, hc]
  | it :: r, h => by
    obtain ⟨ρ1, h1, h2, h3⟩ := h it List.mem_cons_self
    have ih := lc_pure p f hc r fun it' h' => h it' (List.mem_cons_of_mem _ h')
    cases hp : p it with
    | false => simp [lcL, hc, h1, h2, hp, ih]
    | true => simp [lcL, hc, h1, h2, hp, h3 hp, ih]
theorem lc_run {ii : II} {tg : IG} {tt : IT} {ie : IE} {vs : List Nat} {ρ : Env} {S : Sto} {its : List It1} {chk : Sto → Bool} (hi : ii ρ S = .ok ⟨its, chk⟩ S) (hl : its.length ≤ 100000) (hc : ∀ T, chk (S ++ T) = true) (p : It1 → Bool) (f : It1 → Va)
    (hs : ∀ it ∈ its, ∀ T, ∃ ρ1 T1, tg it (wipeE ρ vs) (S ++ T) = .ok ρ1 (S ++ T) ∧ tt ρ1 (S ++ T) = .ok (p it) (S ++ T1) ∧ (p it = true → ∃ T2, ie ρ1 (S ++ T1) = .ok (f it) (S ++ T2))) :
    ∃ T' n, iLc ii tg tt ie vs ρ S = .ok (.ref n) (S ++ T') ∧ ∀ T, (S ++ (T' ++ T))[n]? = some (.lst ((its.filter p).map f)) := by
  obtain ⟨T', h⟩ := lc_grow p f hc its [] hs
  rw [List.append_nil] at h
  refine ⟨T' ++ [.lst ((its.filter p).map f)], (S ++ T').length, ?_, fun T => ?_⟩
  · simp only [iLc, hi, R.bind_ok, hl, if_true, h, R.bindN_ok, List.append_assoc]
  · rw [List.append_assoc, ← List.append_assoc S T']
    exact get_n0
theorem lc_run0 {ii : II} {tg : IG} {tt : IT} {ie : IE} {vs : List Nat} {ρ : Env} {S : Sto} {its : List It1} {chk : Sto → Bool} (hi : ii ρ S = .ok ⟨its, chk⟩ S) (hl : its.length ≤ 100000) (hc : chk S = true) (p : It1 → Bool) (f : It1 → Va)
    (hs : ∀ it ∈ its, ∃ ρ1, tg it (wipeE ρ vs) S = .ok ρ1 S ∧ tt ρ1 S = .ok (p it) S ∧ (p it = true → ie ρ1 S = .ok (f it) S)) :
    iLc ii tg tt ie vs ρ S = .ok (.ref S.length) (S ++ [.lst ((its.filter p).map f)]) := by
  have h := lc_pure p f hc its hs
  simp only [iLc, hi, R.bind_ok, hl, if_true, h, R.bindN_ok]
theorem Paired.of_get {α β : Type} {F : α → β → Prop} : ∀ {xs : List α} {ys : List β}, xs.length = ys.length → (∀ (k : Nat) x y, xs[k]? = some x → ys[k]? = some y → F x y) → Paired F xs ys
  | [], [], _, _ => .nil
  | [], y :: ys, h, _ => by simp at h
  | x :: xs, [], h, _ => by simp at h
  | x :: xs, y :: ys, h, f => .cons (f 0 x y rfl rfl) (Paired.of_get (by simpa using h) fun k a b h1 h2 => f (k + 1) a b (by simpa using h1) (by simpa using h2))
/-- one turn of a comprehension: none where the test says no -/
def LcQ (tg : IG) (tt : IT) (ie : IE) (ρ : Env) (S : Sto) (it : It1) (o : Option Va) : Prop :=
  ∀ T, ∃ ρ1 T1, tg it ρ (S ++ T) = .ok ρ1 (S ++ T) ∧ tt ρ1 (S ++ T) = .ok o.isSome (S ++ T1) ∧ ∀ y, o = some y → ∃ T2, ie ρ1 (S ++ T1) = .ok y (S ++ T2)
theorem lcr_grow {chk : Sto → Bool} {tg : IG} {tt : IT} {ie : IE} {ρ : Env} {S : Sto} (hc : ∀ T, chk (S ++ T) = true) : ∀ {its : List It1} {os : List (Option Va)} (T : Sto), Paired (LcQ tg tt ie ρ S) its os → ∃ T', lcL chk tg tt ie ρ its (S ++ T) = .ok (os.filterMap id) (S ++ T')
  | _, _, T, .nil => ⟨T, by simp [lcL, hc]⟩
  | _, _, T, .cons (a := it) (b := o) q r => by
    obtain ⟨ρ1, T1, h1, h2, h3⟩ := q T
    cases o with
    | none =>
      obtain ⟨T', ih⟩ := lcr_grow hc T1 r
      exact ⟨T', by simp [lcL, hc, h1, h2, ih]⟩
    | some y =>
      obtain ⟨T2, h4⟩ := h3 y rfl
      obtain ⟨T', ih⟩ := lcr_grow hc T2 r
      exact ⟨T', by simp [lcL, hc, h1, h2, h4, ih]⟩
theorem lcr_run {ii : II} {tg : IG} {tt : IT} {ie : IE} {vs : List Nat} {ρ : Env} {S : Sto} {its : List It1} {os : List (Option Va)} {chk : Sto → Bool} (hi : ii ρ S = .ok ⟨its, chk⟩ S) (hl : its.length ≤ 100000) (hc : ∀ T, chk (S ++ T) = true) (hs : Paired (LcQ tg tt ie (wipeE ρ vs) S) its os) :
    ∃ T' n, iLc ii tg tt ie vs ρ S = .ok (.ref n) (S ++ T') ∧ S.length ≤ n ∧ ∀ T, (S ++ (T' ++ T))[n]? = some (.lst (os.filterMap id)) := by
  obtain ⟨T', h⟩ := lcr_grow hc [] hs
  rw [List.append_nil] at h
  refine ⟨T' ++ [.lst (os.filterMap id)], (S ++ T').length, ?_, by simp, fun T => ?_⟩
  · simp only [iLc, hi, R.bind_ok, hl, if_true, h, R.bindN_ok, List.append_assoc]
  · rw [List.append_assoc, ← List.append_assoc S T']
    exact get_n0
/-- .. nothing laid on the way -/
def LcP (tg : IG) (tt : IT) (ie : IE) (ρ : Env) (S : Sto) (it : It1) (o : Option Va) : Prop := ∃ ρ1, tg it ρ S = .ok ρ1 S ∧ tt ρ1 S = .ok o.isSome S ∧ ∀ y, o = some y → ie ρ1 S = .ok y S
theorem lcr_pure {chk : Sto → Bool} {tg : IG} {tt : IT} {ie : IE} {ρ : Env} {S : Sto} (hc : chk S = true) : ∀ {its : List It1} {os : List (Option Va)}, Paired (LcP tg tt ie ρ S) its os → lcL chk tg tt ie ρ its S = .ok (os.filterMap id) S
  | _, _, .nil => by simp [lcL, hc]
  | _, _, .cons (a := it) (b := o) q r => by
    obtain ⟨ρ1, h1, h2, h3⟩ := q
    have ih := lcr_pure hc r
    cases o with
    | none => simp [lcL, hc, h1, h2, ih]
    | some y => simp [lcL, hc, h1, h2, h3 y rfl, ih]
theorem lcr_run0 {ii : II} {tg : IG} {tt : IT} {ie : IE} {vs : List Nat} {ρ : Env} {S : Sto} {its : List It1} {os : List (Option Va)} {chk : Sto → Bool} (hi : ii ρ S = .ok ⟨its, chk⟩ S) (hl : its.length ≤ 100000) (hc : chk S = true) (hs : Paired (LcP tg tt ie (wipeE ρ vs) S) its os) :
    iLc ii tg tt ie vs ρ S = .ok (.ref S.length) (S ++ [.lst (os.filterMap id)]) := by
  have h := lcr_pure hc hs
  simp only [iLc, hi, R.bind_ok, hl, if_true, h, R.bindN_ok]
theorem fmap_some {α β : Type} (f : α → β) (l : List α) : (l.map fun x => some (f x)).filterMap id = l.map f := by
  induction l with
  | nil => rfl
  | cons x l ih => simp [ih]
theorem map_one_get {xs : List Va} {i : Nat} {it : It1} (h : (xs.map It1.one)[i]? = some it) : ∃ x, xs[i]? = some x ∧ it = .one x := by
  rw [List.getElem?_map] at h
  cases e : xs[i]? with
  | none => rw [e] at h; cases h
  | some x => rw [e] at h; exact ⟨x, rfl, (Option.some.inj h).symm⟩
theorem map_get {α β : Type} {f : α → β} {xs : List α} {i : Nat} {y : β} (h : (xs.map f)[i]? = some y) : ∃ x, xs[i]? = some x ∧ y = f x := by
  rw [List.getElem?_map] at h
  cases e : xs[i]? with
  | none => rw [e] at h; cases h
  | some x => rw [e] at h; exact ⟨x, rfl, (Option.some.inj h).symm⟩
theorem zip_get {α β : Type} : ∀ {xs : List α} {ys : List β} {i : Nat} {z : α × β}, (xs.zip ys)[i]? = some z → xs[i]? = some z.1 ∧ ys[i]? = some z.2
  | [], _, _, _, h => by simp at h
  | _ :: _, [], _, _, h => by simp at h
  | x :: xs, y :: ys, 0, z, h => by simp at h; subst h; exact ⟨rfl, rfl⟩
  | x :: xs, y :: ys, i + 1, z, h => by simpa using zip_get (xs := xs) (ys := ys) (i := i) (z := z) (by simpa using h)
theorem enuI_length : ∀ (k : Nat) (xs : List Va), (enuI k xs).length = xs.length
  | _, [] => rfl
  | k, x :: xs => by rw [enuI, List.length_cons, List.length_cons, enuI_length]
theorem enuI_get : ∀ (k : Nat) (xs : List Va) (i : Nat) (it : It1), (enuI k xs)[i]? = some it → ∃ x, xs[i]? = some x ∧ it = .tup [.int ((k + i : Nat) : Int), x]
  | _, [], i, e, h => by simp [enuI] at h
  | k, d :: ds, 0, e, h => by simp [enuI] at h; exact ⟨d, rfl, by rw [← h]; simp⟩
  | k, d :: ds, i + 1, e, h => by
    rw [enuI, List.getElem?_cons_succ] at h
    obtain ⟨d', h1, h2⟩ := enuI_get (k + 1) ds i e h
    exact ⟨d', by rw [List.getElem?_cons_succ]; exact h1, by rw [h2, show k + 1 + i = k + (i + 1) by omega]⟩
theorem zipI_length : ∀ (as bs : List Va), (zipI as bs).length = min as.length bs.length
  | [], bs => by simp [zipI]
  | a :: as, [] => by simp [zipI]
  | a :: as, b :: bs => by rw [zipI, List.length_cons, List.length_cons, List.length_cons, zipI_length]; omega
theorem zipI_get : ∀ (as bs : List Va) (i : Nat) (e : It1), (zipI as bs)[i]? = some e → ∃ a b, as[i]? = some a ∧ bs[i]? = some b ∧ e = .tup [a, b]
  | [], bs, i, e, h => by simp [zipI] at h
  | a :: as, [], i, e, h => by simp [zipI] at h
  | a :: as, b :: bs, 0, e, h => by simp [zipI] at h; exact ⟨a, b, rfl, rfl, h.symm⟩
  | a :: as, b :: bs, i + 1, e, h => by
    rw [zipI, List.getElem?_cons_succ] at h
    obtain ⟨x, y, h1, h2, h3⟩ := zipI_get as bs i e h
    exact ⟨x, y, by rw [List.getElem?_cons_succ]; exact h1, by rw [List.getElem?_cons_succ]; exact h2, h3⟩
theorem sameAt_self {S : Sto} {v : Va} : sameAt S v S = true := by cases v <;> simp [sameAt]
/-! ### data -/
def vN (n : Nat) : Va := .int (n : Int)
def LN (xs : List Nat) : Ob := .lst (xs.map vN)
theorem allO_map {α β : Type} {f : α → Option β} {g : α → β} : ∀ {xs : List α}, (∀ x ∈ xs, f x = some (g x)) → allO (xs.map f) = some (xs.map g)
  | [], _ => rfl
  | x :: xs, h => by
    rw [List.map_cons, h x List.mem_cons_self]
    unfold allO
    rw [allO_map fun y hy => h y (List.mem_cons_of_mem _ hy)]
    rfl
theorem asIs_N (xs : List Nat) : asIs (xs.map vN) = some (xs.map fun (x : Nat) => (x : Int)) := by
  unfold asIs
  rw [List.map_map]
  exact allO_map fun x _ => rfl
theorem asIs_I (xs : List Int) : asIs (xs.map .int) = some xs := by
  unfold asIs
  rw [List.map_map]
  have := allO_map (f := asI ∘ Va.int) (g := id) (xs := xs) fun x _ => rfl
  rw [this, List.map_id]
theorem asBs_B {α : Type} (f : α → Bool) (xs : List α) : asBs (xs.map fun x => Va.bl (f x)) = some (xs.map f) := by
  unfold asBs
  rw [List.map_map]
  exact allO_map fun x _ => rfl
theorem toP_N {k : Nat} {S : Sto} (xs : List Nat) : allO ((xs.map vN).map (toP k S)) = some (xs.map fun (x : Nat) => PyData.int (x : Int)) := by
  rw [List.map_map]
  exact allO_map fun x _ => by cases k <;> simp [vN, toP]
theorem toP_I {k : Nat} {S : Sto} (xs : List Int) : allO ((xs.map Va.int).map (toP k S)) = some (xs.map PyData.int) := by
  rw [List.map_map]
  exact allO_map fun x _ => by cases k <;> simp [toP]
theorem eqv_I : ∀ xs ys : List Int, PyData.eqvAll (xs.map PyData.int) (ys.map PyData.int) = decide (xs = ys)
  | [], [] => by simp [PyData.eqvAll]
  | [], y :: ys => by simp [PyData.eqvAll]
  | x :: xs, [] => by simp [PyData.eqvAll]
  | x :: xs, y :: ys => by
    rw [List.map_cons, List.map_cons, PyData.eqvAll, eqv_I xs ys, PyData.eqv]
    by_cases h : x = y <;> by_cases h2 : xs = ys <;> simp [h, h2]
theorem natInt_inj {xs ys : List Nat} : (xs.map fun (x : Nat) => (x : Int)) = (ys.map fun (x : Nat) => (x : Int)) ↔ xs = ys := by
  constructor
  · intro h
    exact (List.map_inj_right fun a b => by omega).mp h
  · rintro rfl; rfl
theorem eqv_N (xs ys : List Nat) : PyData.eqvAll (xs.map fun (x : Nat) => PyData.int (x : Int)) (ys.map fun (x : Nat) => PyData.int (x : Int)) = decide (xs = ys) := by
  have e : ∀ zs : List Nat, (zs.map fun (x : Nat) => PyData.int (x : Int)) = (zs.map fun (x : Nat) => (x : Int)).map PyData.int := fun zs => by rw [List.map_map]; rfl
  rw [e, e, eqv_I]
  by_cases h : xs = ys
  · subst h; simp
  · rw [decide_eq_false h, decide_eq_false (fun z => h (natInt_inj.mp z))]
theorem getL_ref {S : Sto} {p : Nat} {xs : List Va} (h : S[p]? = some (.lst xs)) : getL S (.ref p) = some xs := by simp [getL, h]
theorem getT_ref {S : Sto} {p : Nat} {xs : List Va} (h : S[p]? = some (.tup xs)) : getT S (.ref p) = some xs := by simp [getT, h]
theorem getL_tup {S : Sto} {p : Nat} {xs : List Va} (h : S[p]? = some (.tup xs)) : getL S (.ref p) = none := by simp [getL, h]
theorem getQ_lst {S : Sto} {p : Nat} {xs : List Va} (h : S[p]? = some (.lst xs)) : getQ S (.ref p) = some xs := by simp [getQ, getL, h]
theorem getQ_tup {S : Sto} {p : Nat} {xs : List Va} (h : S[p]? = some (.tup xs)) : getQ S (.ref p) = some xs := by simp [getQ, getL, getT, h]
theorem ixN_lt {n k : Nat} (h : k < n) : ixN n (k : Int) = some k := by
  unfold ixN
  rw [if_pos (by omega), if_pos (by omega)]
  simp
theorem atI_nat' {α : Type} {xs : List α} {k : Nat} {v : α} (h : xs[k]? = some v) : atI xs (k : Int) = some v := by
  unfold atI
  rw [ixN_lt (List.getElem?_eq_some_iff.mp h).1]
  exact h
theorem fIx_lst {S : Sto} {p k : Nat} {xs : List Va} {v : Va} (h : S[p]? = some (.lst xs)) (hk : xs[k]? = some v) : fIx (.ref p) (.int (k : Int)) S = .ok v S := by
  simp [fIx, getQ_lst h, atI_nat' hk]
theorem fIx_tup {S : Sto} {p k : Nat} {xs : List Va} {v : Va} (h : S[p]? = some (.tup xs)) (hk : xs[k]? = some v) : fIx (.ref p) (.int (k : Int)) S = .ok v S := by
  simp [fIx, getQ_tup h, atI_nat' hk]
theorem sameAt_app {S T : Sto} {p : Nat} {o : Ob} (h : S[p]? = some o) : sameAt S (.ref p) (S ++ T) = true := by
  simp only [sameAt, decide_eq_true_eq, get_app h, h]
theorem sameAt_app2 {S T T' : Sto} {p : Nat} {o : Ob} (h : S[p]? = some o) : sameAt (S ++ T) (.ref p) (S ++ T') = true := by
  simp only [sameAt, decide_eq_true_eq, get_app h]
/-! tasks -/
def TpN (S : Sto) (v : Va) (t : Nat × Nat) : Prop := ∃ q, v = .ref q ∧ S[q]? = some (.tup [vN t.1, vN t.2])
def Tks (S : Sto) (vs : List Va) (ts : List (Nat × Nat)) : Prop := Paired (TpN S) vs ts
theorem TpN.app {S T : Sto} {v : Va} {t : Nat × Nat} (h : TpN S v t) : TpN (S ++ T) v t := let ⟨q, h1, h2⟩ := h; ⟨q, h1, get_app h2⟩
theorem Tks.app {S T : Sto} {vs : List Va} {ts : List (Nat × Nat)} (h : Tks S vs ts) : Tks (S ++ T) vs ts := Paired.imp (fun _ _ q => TpN.app q) h
end IL

end
section
set_option Elab.async false
set_option linter.all false
set_option maxRecDepth 100000
set_option maxHeartbeats 2000000
namespace IL
open PySem L2
/-! ### they are sound -/
def rADD : R2 := fun x y H Q => rI0 (fun i j => .int (i + j)) x y H Q ∨ rCat x y H Q
theorem op_ADD {X : Cx} : OpR X (binaryOp .Add) rADD := op_add.or op_cat
def CMulZ (i j : Int) : Prop := IntMulOk i j
theorem op_mulZ {X : Cx} : OpR X (binaryOp .Mult) (rI CMulZ fun i j => .int (i * j)) := opI fun _ _ _ _ _ _ _ hc q => PyProof.Rows.mul_int q hc
def rMUL : R2 := fun x y H Q => rI CMulZ (fun i j => .int (i * j)) x y H Q ∨ rRep x y H Q
theorem op_MUL {X : Cx} : OpR X (binaryOp .Mult) rMUL := op_mulZ.or op_rep
section
variable {g : Gm} {W : WH} {ι : List Addr} {S : Sto} {H : Hp}
theorem sr_II {k : Int → Int → V} {k' : Int → Int → Va} (h : ∀ ι i j, VR g ι (k' i j) (k i j)) : SdR g W (rI0 k) (fII k') := fun ι S H x y v u σ Q s vx vy h1 => by
  unfold fII at h1
  split at h1
  · cases vx; cases vy
    exact ⟨_, _, rfl, rfl, h1 ι H (Ext.refl _ _) s _ (h ι _ _)⟩
  · exact h1.elim
theorem sr_sub : SdR g W (rI0 fun i j => .int (i - j)) fSub := sr_II fun _ _ _ => rfl
theorem sr_lt : SdR g W (rI0 fun i j => .bl (decide (i < j))) fLt := sr_II fun _ _ _ => rfl
theorem sr_le : SdR g W (rI0 fun i j => .bl (decide (i ≤ j))) fLe := sr_II fun _ _ _ => rfl
theorem sr_gt : SdR g W (rI0 fun i j => .bl (decide (j < i))) fGt := sr_II fun _ _ _ => rfl
theorem sr_ge : SdR g W (rI0 fun i j => .bl (decide (j ≤ i))) fGe := sr_II fun _ _ _ => rfl
theorem sr_add : SdR g W rADD fAdd := fun ι S H x y v u σ Q s vx vy h1 => by
  unfold fAdd at h1
  split at h1
  · cases vx; cases vy
    exact .inl ⟨_, _, rfl, rfl, h1 ι H (Ext.refl _ _) s _ rfl⟩
  · split at h1
    · rename_i xs ys ex ey
      split at h1
      · rename_i hl
        obtain ⟨p, rfl, _, vs, hp, rp⟩ := s.ref ex vx
        obtain ⟨q, rfl, _, ws, hq, rq⟩ := s.ref ey vy
        refine .inr ⟨p, q, vs, ws, rfl, rfl, hp, hq, sz (by rw [← Paired.len rp, ← Paired.len rq]; exact hl), fun z hz => ?_⟩
        exact h1 _ _ (Ext.snoc hz) (s.lst hz (Paired.append rp rq)) _ s.newRef
      · exact h1.elim
    · exact h1.elim
  · exact h1.elim
theorem sr_mul : SdR g W rMUL fMul := fun ι S H x y v u σ Q s vx vy h1 => by
  unfold fMul at h1
  split at h1
  · split at h1
    · rename_i hm
      cases vx; cases vy
      exact .inl ⟨_, _, rfl, rfl, hm, h1 ι H (Ext.refl _ _) s _ rfl⟩
    · exact h1.elim
  · split at h1
    · rename_i xs ex
      split at h1
      · rename_i k hl
        obtain ⟨p, rfl, _, vs, hp, rp⟩ := s.ref ex vx
        cases vy
        refine .inr ⟨p, _, vs, rfl, rfl, hp, by omega, by omega, sz (by rw [← Paired.len rp]; exact hl.2.2), fun z hz => ?_⟩
        exact h1 _ _ (Ext.snoc hz) (s.lst hz (Paired.rep rp _)) _ s.newRef
      · exact h1.elim
    · exact h1.elim
  · exact h1.elim
theorem sr_mod : SdR g W (rI (fun _ j => 0 < j) fun i j => .int (i % j)) fMod := fun ι S H x y v u σ Q s vx vy h1 => by
  unfold fMod at h1
  split at h1
  · split at h1
    · rename_i hm
      cases vx; cases vy
      exact ⟨_, _, rfl, rfl, hm, h1 ι H (Ext.refl _ _) s _ rfl⟩
    · exact h1.elim
  · exact h1.elim
theorem sr_div : SdR g W (rI CDiv fun i j => .int (i / j)) fDiv := fun ι S H x y v u σ Q s vx vy h1 => by
  unfold fDiv at h1
  split at h1
  · split at h1
    · rename_i hm
      cases vx; cases vy
      exact ⟨_, _, rfl, rfl, hm, h1 ι H (Ext.refl _ _) s _ rfl⟩
    · exact h1.elim
  · exact h1.elim
theorem sr_pow : SdR g W (rI CPow fun i j => .int (i ^ j.toNat)) fPow := fun ι S H x y v u σ Q s vx vy h1 => by
  unfold fPow at h1
  split at h1
  · split at h1
    · rename_i hm
      cases vx; cases vy
      exact ⟨_, _, rfl, rfl, hm, h1 ι H (Ext.refl _ _) s _ rfl⟩
    · exact h1.elim
  · exact h1.elim
theorem sd_neg {ta : TE} {ia : IE} (ha : SdE g W ta ia) : SdE g W (tUn (rU fun i => .int (-i)) ta) (iUn fNeg ia) := sd_un (fun ι S H x v σ Q s vx h1 => by
  unfold fNeg at h1
  split at h1
  · cases vx
    exact ⟨_, rfl, h1 ι H (Ext.refl _ _) s _ rfl⟩
  · exact h1.elim) ha
theorem sr_is : SdR g W rIsB fIs := fun ι S H x y v u σ Q s vx vy h1 => by
  unfold fIs at h1
  split at h1
  · cases vx; cases vy
    exact ⟨_, _, rfl, rfl, h1 ι H (Ext.refl _ _) s _ rfl⟩
  · exact h1.elim
theorem sr_isnot : SdR g W rNotB fIsNot := fun ι S H x y v u σ Q s vx vy h1 => by
  unfold fIsNot at h1
  split at h1
  · cases vx; cases vy
    exact ⟨_, _, rfl, rfl, h1 ι H (Ext.refl _ _) s _ rfl⟩
  · exact h1.elim
/-! lists -/
theorem vr_ints (ns : List Int) : VRs g ι (ns.map .int) (ns.map V.int) := by
  induction ns with
  | nil => exact .nil
  | cons n ns ih => exact .cons rfl ih
theorem getL_ok (s : Sim g ι S H) {x : Va} {v : V} {xs : List Va} (vx : VR g ι x v) (e : getL S x = some xs) : ∃ a vs, v = .ref a ∧ SqL g.K H a vs ∧ VRs g ι xs vs := by
  unfold getL at e
  split at e
  · split at e
    · rename_i ex
      cases e
      obtain ⟨p, rfl, _, vs, hp, rp⟩ := s.ref ex vx
      exact ⟨p, vs, rfl, SqL.of hp, rp⟩
    · cases e
  · cases e
    obtain ⟨rfl, rfl⟩ := vx
    exact ⟨_, _, rfl, s.scr, vr_ints _⟩
  · cases e
theorem getT_ok (s : Sim g ι S H) {x : Va} {v : V} {xs : List Va} (vx : VR g ι x v) (e : getT S x = some xs) : ∃ a vs, v = .ref a ∧ H a = some (.tup vs) ∧ VRs g ι xs vs := by
  unfold getT at e
  split at e
  · split at e
    · rename_i ex
      cases e
      obtain ⟨p, rfl, _, vs, hp, rp⟩ := s.ref ex vx
      exact ⟨p, vs, rfl, hp, rp⟩
    · cases e
  · cases e
theorem getQ_ok (s : Sim g ι S H) {x : Va} {v : V} {xs : List Va} (vx : VR g ι x v) (e : getQ S x = some xs) : ∃ a vs, v = .ref a ∧ (SqL g.K H a vs ∨ SqT g.K H a vs) ∧ VRs g ι xs vs := by
  unfold getQ at e
  split at e
  · rename_i el
    cases e
    obtain ⟨a, vs, h1, h2, h3⟩ := getL_ok s vx el
    exact ⟨a, vs, h1, .inl h2, h3⟩
  · obtain ⟨a, vs, h1, h2, h3⟩ := getT_ok s vx e
    exact ⟨a, vs, h1, .inr (SqT.of h2), h3⟩
theorem sr_ix : SdR g W (rIx g.K) fIx := fun ι S H x y v u σ Q s vx vy h1 => by
  unfold fIx at h1
  split at h1
  · rename_i xs i ex
    split at h1
    · rename_i w ew
      obtain ⟨a, vs, rfl, hq, r⟩ := getQ_ok s vx ex
      obtain ⟨w', e1, e2⟩ := Paired.atI r ew
      cases vy
      rcases hq with hq | hq
      · exact .inl ⟨a, vs, i, w', rfl, rfl, hq, e1, h1 ι H (Ext.refl _ _) s _ e2⟩
      · exact .inr (.inl ⟨a, vs, i, w', rfl, rfl, hq, e1, h1 ι H (Ext.refl _ _) s _ e2⟩)
    · exact h1.elim
  · exact h1.elim
/-! == -/
theorem allO_get {α β : Type} {f : α → Option β} : ∀ {xs : List α} {ds : List β}, allO (xs.map f) = some ds → Paired (fun x d => f x = some d) xs ds
  | [], ds, h => by cases h; exact .nil
  | x :: xs, ds, h => by
    rw [List.map_cons] at h
    cases e : f x with
    | none => rw [e] at h; cases h
    | some d =>
      rw [e] at h
      unfold allO at h
      split at h
      · rename_i l hl
        cases h
        exact .cons e (allO_get hl)
      · cases h
theorem dpAll_of {xs : List Va} {vs : List V} {ds : List PyData} {f : Va → Option PyData} (hf : ∀ x v d, f x = some d → VR g ι x v → Dp g.K H v d) (r : VRs g ι xs vs) (h : Paired (fun x d => f x = some d) xs ds) : DpAll g.K H vs ds := by
  induction r generalizing ds with
  | nil => cases h; exact .nil
  | cons q t ih =>
    cases h with
    | cons h1 h2 => exact .cons (hf _ _ _ h1 q) (ih h2)
theorem dpAll_ints : ∀ ns : List Int, DpAll g.K H (ns.map V.int) (ns.map PyData.int)
  | [] => .nil
  | n :: ns => .cons (.int n) (dpAll_ints ns)
theorem toP_dp (s : Sim g ι S H) : ∀ (k : Nat) (x : Va) (v : V) (d : PyData), toP k S x = some d → VR g ι x v → Dp g.K H v d
  | k, .non, v, d, h, vx => by cases vx; simp [toP] at h; subst h; exact .non
  | k, .bl b, v, d, h, vx => by cases vx; simp [toP] at h; subst h; exact .bl b
  | k, .int b, v, d, h, vx => by cases vx; simp [toP] at h; subst h; exact .int b
  | k, .str b, v, d, h, vx => by
    cases vx
    simp only [toP] at h
    split at h
    · cases h; exact .str b
    · cases h
  | k, .scr ns, v, d, h, vx => by
    obtain ⟨rfl, rfl⟩ := vx
    simp [toP] at h; subst h
    exact .lst s.scr (dpAll_ints _)
  | 0, .ref n, v, d, h, vx => by simp [toP] at h
  | k + 1, .ref n, v, d, h, vx => by
    simp only [toP] at h
    split at h
    · rename_i xs ex
      split at h
      · rename_i ds hds
        cases h
        obtain ⟨p, rfl, _, vs, hp, rp⟩ := s.ref ex vx
        exact .lst (SqL.of hp) (dpAll_of (toP_dp s k · · ·) rp (allO_get hds))
      · cases h
    · rename_i xs ex
      split at h
      · rename_i ds hds
        cases h
        obtain ⟨p, rfl, _, vs, hp, rp⟩ := s.ref ex vx
        exact .tup (SqT.of hp) (dpAll_of (toP_dp s k · · ·) rp (allO_get hds))
      · cases h
    · cases h
  | k, .ty n, v, d, h, vx => by simp [toP] at h
  | k, .gl n, v, d, h, vx => by simp [toP] at h
  | k, .exc n, v, d, h, vx => by simp [toP] at h
theorem lay_all {f : Va → Option PyData} {n : Nat} {xs : List Va} {ds : List PyData} (hf : ∀ x d, f x = some d → d.canLay0 = true ∧ d.depth ≤ n) (h : Paired (fun x d => f x = some d) xs ds) : PyData.canLayAll0 ds = true ∧ PyData.depthAll ds ≤ n := by
  induction h with
  | nil => simp [PyData.canLayAll0, PyData.depthAll]
  | cons q t ih =>
    obtain ⟨a, b⟩ := hf _ _ q
    rw [PyData.canLayAll0, PyData.depthAll, a, ih.1]
    exact ⟨rfl, by have := ih.2; omega⟩
theorem lay_ints : ∀ ns : List Int, PyData.canLayAll0 (ns.map PyData.int) = true ∧ PyData.depthAll (ns.map PyData.int) ≤ 1
  | [] => by simp [PyData.canLayAll0, PyData.depthAll]
  | n :: ns => by
    obtain ⟨a, b⟩ := lay_ints ns
    rw [List.map_cons, PyData.canLayAll0, PyData.depthAll, a]
    simp only [PyData.canLay0, PyData.depth]
    exact ⟨rfl, by omega⟩
theorem toP_lay : ∀ (k : Nat) (x : Va) (d : PyData), toP k S x = some d → d.canLay0 = true ∧ d.depth ≤ k + 2
  | k, .non, d, h => by simp [toP] at h; subst h; simp [PyData.canLay0, PyData.depth]
  | k, .bl b, d, h => by simp [toP] at h; subst h; simp [PyData.canLay0, PyData.depth]
  | k, .int b, d, h => by simp [toP] at h; subst h; simp [PyData.canLay0, PyData.depth]
  | k, .str b, d, h => by
    simp only [toP] at h
    split at h
    · rename_i hb
      cases h; simp [PyData.canLay0, PyData.depth, hb]
    · cases h
  | k, .scr ns, d, h => by
    simp [toP] at h; subst h
    obtain ⟨a, b⟩ := lay_ints ns
    rw [PyData.canLay0, PyData.depth, a]
    exact ⟨rfl, by omega⟩
  | 0, .ref n, d, h => by simp [toP] at h
  | k + 1, .ref n, d, h => by
    simp only [toP] at h
    split at h
    · split at h
      · rename_i ds hds
        cases h
        obtain ⟨a, b⟩ := lay_all (n := k + 2) (toP_lay k · ·) (allO_get hds)
        rw [PyData.canLay0, PyData.depth, a]
        exact ⟨rfl, by omega⟩
      · cases h
    · split at h
      · rename_i ds hds
        cases h
        obtain ⟨a, b⟩ := lay_all (n := k + 2) (toP_lay k · ·) (allO_get hds)
        rw [PyData.canLay0, PyData.depth, a]
        exact ⟨rfl, by omega⟩
      · cases h
    · cases h
  | k, .ty n, d, h => by simp [toP] at h
  | k, .gl n, d, h => by simp [toP] at h
  | k, .exc n, d, h => by simp [toP] at h
theorem toP_shaped {x : Va} {d : PyData} (h : toP 9 S x = some d) : SeqAt.shaped d = true := by
  obtain ⟨a, b⟩ := toP_lay 9 x d h
  unfold SeqAt.shaped
  rw [a, Bool.true_and]
  exact decide_eq_true (by omega)
theorem sr_eq : SdR g W (rEqD g.K) fEq := fun ι S H x y v u σ Q s vx vy h1 => by
  unfold fEq at h1
  split at h1
  · rename_i d e hd he
    exact ⟨d, e, toP_dp s 9 _ _ _ hd vx, toP_dp s 9 _ _ _ he vy, toP_shaped hd, toP_shaped he, h1 ι H (Ext.refl _ _) s _ rfl⟩
  · exact h1.elim
theorem sr_ne : SdR g W (rNeD g.K) fNe := fun ι S H x y v u σ Q s vx vy h1 => by
  unfold fNe at h1
  split at h1
  · rename_i d e hd he
    exact ⟨d, e, toP_dp s 9 _ _ _ hd vx, toP_dp s 9 _ _ _ he vy, toP_shaped hd, toP_shaped he, h1 ι H (Ext.refl _ _) s _ rfl⟩
  · exact h1.elim
theorem sr_inD : SdR g W (rInD g.K) (fInD false) := fun ι S H x y v u σ Q s vx vy h1 => by
  unfold fInD at h1
  split at h1
  · rename_i d e hd he
    exact ⟨d, e, toP_dp s 9 _ _ _ hd vx, toP_dp s 9 _ _ _ he vy, toP_shaped hd, toP_shaped he, h1 ι H (Ext.refl _ _) s _ rfl⟩
  · exact h1.elim
theorem sr_niD : SdR g W (rNotInD g.K) (fInD true) := fun ι S H x y v u σ Q s vx vy h1 => by
  unfold fInD at h1
  split at h1
  · rename_i d e hd he
    exact ⟨d, e, toP_dp s 9 _ _ _ hd vx, toP_dp s 9 _ _ _ he vy, toP_shaped hd, toP_shaped he, h1 ι H (Ext.refl _ _) s _ rfl⟩
  · exact h1.elim
/-! in -/
theorem flat_vr {x : Va} {v : V} (h : VR g ι x v) (f : flatA x = true) : flatV v = true := by
  cases x <;> first | (cases h; rfl) | (simp [flatA] at f)
theorem eq_vr {x y : Va} {v u : V} (hx : VR g ι x v) (hy : VR g ι y u) (fx : flatA x = true) (fy : flatA y = true) : eqV v u = eqA x y := by
  cases x <;> first | (simp [flatA] at fx; done) | (cases hx; cases y <;> first | (simp [flatA] at fy; done) | (cases hy; rfl))
theorem flats_vr {xs : List Va} {vs : List V} (r : VRs g ι xs vs) (f : xs.all flatA = true) : vs.all flatV = true := by
  induction r with
  | nil => rfl
  | cons q t ih =>
    rw [List.all_cons, Bool.and_eq_true] at f
    rw [List.all_cons, flat_vr q f.1, ih f.2]; rfl
theorem in_vr {x : Va} {v : V} {xs : List Va} {vs : List V} (hx : VR g ι x v) (fx : flatA x = true) (r : VRs g ι xs vs) (f : xs.all flatA = true) : inV v vs = inA x xs := by
  induction r with
  | nil => rfl
  | cons q t ih =>
    rw [List.all_cons, Bool.and_eq_true] at f
    unfold inV inA at ih ⊢
    rw [List.any_cons, List.any_cons, ih f.2, eq_vr q hx f.1 fx]
theorem sr_in {neg : Bool} : SdR g W (rIn g.K neg) (fIn neg) := fun ι S H x y v u σ Q s vx vy h1 => by
  unfold fIn at h1
  split at h1
  · rename_i xs ex
    split at h1
    · rename_i hf
      obtain ⟨a, vs, rfl, hq, r⟩ := getQ_ok s vy ex
      refine ⟨a, vs, rfl, hq, flat_vr vx hf.1, flats_vr r hf.2, ?_⟩
      rw [in_vr vx hf.1 r hf.2]
      exact h1 ι H (Ext.refl _ _) s _ rfl
    · exact h1.elim
  · exact h1.elim
/-! built-ins -/
theorem vrs1 {x : Va} {vs : List V} (h : VRs g ι [x] vs) : ∃ v, vs = [v] ∧ VR g ι x v := by
  cases h with | cons h t => cases t; exact ⟨_, rfl, h⟩
theorem vrs2 {x y : Va} {vs : List V} (h : VRs g ι [x, y] vs) : ∃ v u, vs = [v, u] ∧ VR g ι x v ∧ VR g ι y u := by
  cases h with | cons h t => obtain ⟨u, rfl, h2⟩ := vrs1 t; exact ⟨_, _, rfl, h, h2⟩
theorem vrs0 {vs : List V} (h : VRs g ι [] vs) : vs = [] := by cases h; rfl
theorem ints_vr {xs : List Va} {ns : List Int} {vs : List V} (e : asIs xs = some ns) (r : VRs g ι xs vs) : vs = ns.map V.int := by
  have h := allO_get e
  clear e
  induction r generalizing ns with
  | nil => cases h; rfl
  | @cons x v xs vs q t ih =>
    cases h with
    | cons h1 h2 =>
      rw [List.map_cons, ih h2]
      cases x <;> simp [asI] at h1
      cases q; rw [h1]
theorem bls_vr {xs : List Va} {ns : List Bool} {vs : List V} (e : asBs xs = some ns) (r : VRs g ι xs vs) : vs = ns.map V.bl := by
  have h := allO_get e
  clear e
  induction r generalizing ns with
  | nil => cases h; rfl
  | @cons x v xs vs q t ih =>
    cases h with
    | cons h1 h2 =>
      rw [List.map_cons, ih h2]
      cases x <;> simp [asBl] at h1
      cases q; rw [h1]
theorem getI_ok (s : Sim g ι S H) {x : Va} {v : V} {ns : List Int} (vx : VR g ι x v) (e : (getL S x).bind asIs = some ns) : ∃ a, v = .ref a ∧ SqL g.K H a (ns.map V.int) := by
  obtain ⟨xs, e1, e2⟩ := Option.bind_eq_some_iff.mp e
  obtain ⟨a, vs, h1, h2, h3⟩ := getL_ok s vx e1
  rw [ints_vr e2 h3] at h2
  exact ⟨a, h1, h2⟩
theorem getB_ok (s : Sim g ι S H) {x : Va} {v : V} {ns : List Bool} (vx : VR g ι x v) (e : (getL S x).bind asBs = some ns) : ∃ a, v = .ref a ∧ SqL g.K H a (ns.map V.bl) := by
  obtain ⟨xs, e1, e2⟩ := Option.bind_eq_some_iff.mp e
  obtain ⟨a, vs, h1, h2, h3⟩ := getL_ok s vx e1
  rw [bls_vr e2 h3] at h2
  exact ⟨a, h1, h2⟩
/-- the classes' facts -/
structure Cl (g : Gm) : Prop where
  cls : ∀ c ∈ clsL, Cls g.K (g.γ c)
  sub : ∀ c ∈ clsL, ∀ d ∈ clsL, PySem.W.kitOne g.K (.ref (g.γ c)) (.ref (g.γ d)) = some (isSub c d)
  ha : ∀ c ∈ clsL, PySem.W.findIn g.K (.ref (g.γ c)) "__class__" = some (some (.builtin "object.__class__"))
  hn : PySem.W.specialIn g.K (.builtin "object.__class__") "__get__" = some (some (.builtin "getset_descriptor.__get__"))
  ht : PySem.W.takesIn g.K (.builtin "object.__class__") = some true
  hm : ∀ c ∈ clsL, PySem.W.mroIn g.K (g.γ c) (.type "object") = some true
theorem tyB_ok (s : Sim g ι S H) {x : Va} {v : V} {t : String} (vx : VR g ι x v) (e : tyB S x = some t) : TyX g.K H v (.type t) := by
  cases x with
  | non => cases vx; cases e; exact .base .non
  | bl b => cases vx; cases e; exact .base (.bl b)
  | int b => cases vx; cases e; exact .base (.int b)
  | str b => cases vx; cases e; exact .base (.str b)
  | ref n =>
    simp only [tyB] at e
    split at e
    · rename_i ex; cases e
      obtain ⟨p, rfl, _, vs, hp, rp⟩ := s.ref ex vx
      exact .base (.lst hp)
    · rename_i ex; cases e
      obtain ⟨p, rfl, _, vs, hp, rp⟩ := s.ref ex vx
      exact .base (.tup hp)
    · rename_i ex; cases e
      obtain ⟨p, rfl, _, vs, hp, rp⟩ := s.ref ex vx
      exact .base (.dK hp)
    · cases e
  | scr ns =>
    cases e
    obtain ⟨rfl, rfl⟩ := vx
    rcases s.scr with (h | ⟨o, h⟩) | ⟨o, its, n, h1, h2, _⟩
    · exact .base (.lst h)
    · exact .base (.frz h)
    · exact .kList h1 h2
  | _ => cases e
theorem sc_isi : SdC g W (rIsi g.K) fIsi := fun ι S H xs vs σ Q s r h1 => by
  unfold fIsi at h1
  split at h1
  · rename_i x u
    obtain ⟨v, w, rfl, vx, vy⟩ := vrs2 r
    split at h1
    · rename_i t ht
      split at h1
      · rename_i b hb
        cases vy
        exact ⟨v, .ty u, .type t, .type u, b, rfl, .ty u, tyB_ok s vx ht, kit_ty hb, h1 ι H (Ext.refl _ _) s _ rfl⟩
      · exact h1.elim
    · exact h1.elim
  · exact h1.elim
theorem sc_isiC (cl : Cl g) : SdC g W (rIsi g.K) fIsiC := fun ι S H xs vs σ Q s r h1 => by
  unfold fIsiC at h1
  split at h1
  · rename_i n d
    obtain ⟨v, w, rfl, vx, vy⟩ := vrs2 r
    split at h1
    · rename_i c fs ex
      split at h1
      · rename_i hc
        cases vy
        obtain ⟨p, rfl, _, dx, ws, hp, rp⟩ := s.ref ex vx
        exact ⟨_, _, _, _, _, rfl, .own _, .base (.ins hp (cl.cls c hc.1) (cl.ha c hc.1) cl.hn cl.ht (cl.hm c hc.1)), cl.sub c hc.1 d hc.2, h1 ι H (Ext.refl _ _) s _ rfl⟩
      · exact h1.elim
    · exact h1.elim
  · exact h1.elim
def rLEN (K : PySem.W.Frag) : List V → Hp → VK → Prop := fun xs H Q => ∃ x n, xs = [x] ∧ LenV K x H n ∧ Q (.int n) H
theorem call_LEN {X : Cx} : CallR X (.builtin "len") (rLEN X.K) := call_len
theorem sc_len : SdC g W (rLEN g.K) fLen := fun ι S H xs vs σ Q s r h1 => by
  unfold fLen at h1
  split at h1
  · obtain ⟨v, rfl, vx⟩ := vrs1 r
    split at h1
    · rename_i xs ex
      obtain ⟨a, ws, rfl, hq, r⟩ := getQ_ok s vx ex
      refine ⟨.ref a, ws.length, rfl, ?_, ?_⟩
      · rcases hq with hq | hq
        · exact .inl ⟨ws, hq, rfl⟩
        · exact .inr ⟨ws, hq, rfl⟩
      · rw [← Paired.len r]; exact h1 ι H (Ext.refl _ _) s _ rfl
    · exact h1.elim
  · exact h1.elim
def rLIST (K : PySem.W.Frag) : List V → Hp → VK → Prop := fun xs H Q => ∃ p ys, xs = [.ref p] ∧ (SqL K H p ys ∨ SqT K H p ys) ∧ ∀ l, H l = none → Q (.ref l) (upd H l (.lst ys))
theorem call_LIST {X : Cx} : CallR X (.type "list") (rLIST X.K) := call_list_of
theorem sc_list : SdC g W (rLIST g.K) fList := fun ι S H xs vs σ Q s r h1 => by
  unfold fList at h1
  split at h1
  · obtain ⟨v, rfl, vx⟩ := vrs1 r
    split at h1
    · rename_i xs ex
      obtain ⟨a, ws, rfl, hq, r⟩ := getQ_ok s vx ex
      exact ⟨a, ws, rfl, hq, fun p hp => h1 _ _ (Ext.snoc hp) (s.lst hp r) _ s.newRef⟩
    · exact h1.elim
  · exact h1.elim
def rTUPLE (K : PySem.W.Frag) : List V → Hp → VK → Prop := fun xs H Q => ∃ p ys, xs = [.ref p] ∧ ((SqL K H p ys ∧ ∀ l, H l = none → Q (.ref l) (upd H l (.tup ys))) ∨ (SqT K H p ys ∧ Q (.ref p) H))
theorem call_TUPLE {X : Cx} : CallR X (.type "tuple") (rTUPLE X.K) := call_tuple_of
theorem sc_tuple : SdC g W (rTUPLE g.K) fTuple := fun ι S H xs vs σ Q s r h1 => by
  unfold fTuple at h1
  split at h1
  · obtain ⟨v, rfl, vx⟩ := vrs1 r
    split at h1
    · rename_i xs ex
      obtain ⟨a, ws, rfl, hq, r⟩ := getL_ok s vx ex
      exact ⟨a, ws, rfl, .inl ⟨hq, fun p hp => h1 _ _ (Ext.snoc hp) (s.tup hp r) _ s.newRef⟩⟩
    · exact h1.elim
  · exact h1.elim
theorem sc_sum : SdC g W (rSum g.K) fSum := fun ι S H xs vs σ Q s r h1 => by
  unfold fSum at h1
  split at h1
  · obtain ⟨v, rfl, vx⟩ := vrs1 r
    split at h1
    · rename_i ns en
      obtain ⟨a, rfl, hq⟩ := getI_ok s vx en
      exact ⟨a, ns, rfl, hq, h1 ι H (Ext.refl _ _) s _ rfl⟩
    · exact h1.elim
  · exact h1.elim
theorem sc_all : SdC g W (rAll g.K) fAll := fun ι S H xs vs σ Q s r h1 => by
  unfold fAll at h1
  split at h1
  · obtain ⟨v, rfl, vx⟩ := vrs1 r
    split at h1
    · rename_i ns en
      obtain ⟨a, rfl, hq⟩ := getB_ok s vx en
      exact ⟨a, ns, rfl, hq, h1 ι H (Ext.refl _ _) s _ rfl⟩
    · exact h1.elim
  · exact h1.elim
theorem sc_any : SdC g W (rAny g.K) fAny := fun ι S H xs vs σ Q s r h1 => by
  unfold fAny at h1
  split at h1
  · obtain ⟨v, rfl, vx⟩ := vrs1 r
    split at h1
    · rename_i ns en
      obtain ⟨a, rfl, hq⟩ := getB_ok s vx en
      exact ⟨a, ns, rfl, hq, h1 ι H (Ext.refl _ _) s _ rfl⟩
    · exact h1.elim
  · exact h1.elim
def rMAX (K : PySem.W.Frag) : List V → Hp → VK → Prop := fun xs H Q => rMax K xs H Q ∨ ∃ i j, xs = [.int i, .int j] ∧ Q (.int (if j > i then j else i)) H
def rMIN (K : PySem.W.Frag) : List V → Hp → VK → Prop := fun xs H Q => rMin K xs H Q ∨ ∃ i j, xs = [.int i, .int j] ∧ Q (.int (if j < i then j else i)) H
theorem call_MAX {X : Cx} (hc : X.calm = true) : CallR X (.builtin "max") (rMAX X.K) := (cr_max hc).or (call_max2 hc)
theorem call_MIN {X : Cx} (hc : X.calm = true) : CallR X (.builtin "min") (rMIN X.K) := (cr_min hc).or (call_min2 hc)
theorem foldl_max_ge : ∀ (l : List Int) (x : Int), x ≤ l.foldl max x ∧ ∀ y ∈ l, y ≤ l.foldl max x
  | [], x => ⟨Int.le_refl _, fun y h => by simp at h⟩
  | z :: l, x => by
    obtain ⟨h1, h2⟩ := foldl_max_ge l (max x z)
    rw [List.foldl_cons]
    refine ⟨by omega, fun y hy => ?_⟩
    rcases List.mem_cons.mp hy with rfl | hy
    · omega
    · exact h2 y hy
theorem foldl_max_mem : ∀ (l : List Int) (x : Int), l.foldl max x ∈ x :: l
  | [], x => by simp
  | z :: l, x => by
    rw [List.foldl_cons]
    rcases List.mem_cons.mp (foldl_max_mem l (max x z)) with h | h
    · rw [h]
      by_cases hz : x ≤ z
      · rw [Int.max_eq_right hz]; simp
      · rw [Int.max_eq_left (by omega)]; simp
    · exact List.mem_cons_of_mem _ (List.mem_cons_of_mem _ h)
theorem maxL_is {ns : List Int} {m : Int} (h : maxL ns = some m) : m ∈ ns ∧ ∀ y ∈ ns, y ≤ m := by
  cases ns with
  | nil => cases h
  | cons x l =>
    cases h
    refine ⟨foldl_max_mem l x, fun y hy => ?_⟩
    obtain ⟨h1, h2⟩ := foldl_max_ge l x
    rcases List.mem_cons.mp hy with rfl | hy
    · exact h1
    · exact h2 y hy
theorem sc_max : SdC g W (rMAX g.K) fMax := fun ι S H xs vs σ Q s r h1 => by
  unfold fMax at h1
  split at h1
  · rename_i i j
    obtain ⟨v, w, rfl, vx, vy⟩ := vrs2 r
    cases vx; cases vy
    refine .inr ⟨i, j, rfl, ?_⟩
    have e : (if j > i then j else i) = max i j := by split <;> omega
    rw [e]; exact h1 ι H (Ext.refl _ _) s _ rfl
  · obtain ⟨v, rfl, vx⟩ := vrs1 r
    split at h1
    · rename_i m em
      obtain ⟨ns, en, e2⟩ := Option.bind_eq_some_iff.mp em
      obtain ⟨a, rfl, hq⟩ := getI_ok s vx en
      obtain ⟨m1, m2⟩ := maxL_is e2
      refine .inl ⟨a, ns, rfl, hq, List.length_pos_of_mem m1, fun m' hm hl => ?_⟩
      have e : m' = m := by have := hl m m1; have := m2 m' hm; omega
      subst e
      exact h1 ι H (Ext.refl _ _) s _ rfl
    · exact h1.elim
  · exact h1.elim
theorem sc_min : SdC g W (rMIN g.K) fMin := fun ι S H xs vs σ Q s r h1 => by
  unfold fMin at h1
  split at h1
  · rename_i i j
    obtain ⟨v, w, rfl, vx, vy⟩ := vrs2 r
    cases vx; cases vy
    refine .inr ⟨i, j, rfl, ?_⟩
    have e : (if j < i then j else i) = min i j := by split <;> omega
    rw [e]; exact h1 ι H (Ext.refl _ _) s _ rfl
  · exact h1.elim
def rABS : List V → Hp → VK → Prop := fun xs H Q => ∃ i, xs = [.int i] ∧ Q (.int (if i < 0 then -i else i)) H
theorem call_ABS {X : Cx} : CallR X (.builtin "abs") rABS := call_abs
theorem sc_abs : SdC g W rABS fAbs := fun ι S H xs vs σ Q s r h1 => by
  unfold fAbs at h1
  split at h1
  · rename_i i
    obtain ⟨v, rfl, vx⟩ := vrs1 r
    cases vx
    refine ⟨i, rfl, ?_⟩
    have e : (if i < 0 then -i else i) = (i.natAbs : Int) := by split <;> omega
    rw [e]; exact h1 ι H (Ext.refl _ _) s _ rfl
  · exact h1.elim
/-! sorted -/
theorem sorted_uniq : ∀ {xs ys : List Int}, xs.Perm ys → xs.Pairwise (· ≤ ·) → ys.Pairwise (· ≤ ·) → xs = ys
  | [], ys, p, _, _ => by rw [List.nil_perm.mp p]
  | x :: xs, [], p, _, _ => by have := p.length_eq; simp at this
  | x :: xs, y :: ys, p, h1, h2 => by
    rw [List.pairwise_cons] at h1 h2
    have hx : x ∈ y :: ys := p.subset List.mem_cons_self
    have hy : y ∈ x :: xs := p.symm.subset List.mem_cons_self
    have e : x = y := by
      rcases List.mem_cons.mp hx with e | hx
      · exact e
      · rcases List.mem_cons.mp hy with e | hy
        · exact e.symm
        · have := h1.1 y hy; have := h2.1 x hx; omega
    subst e
    rw [sorted_uniq (List.Perm.cons_inv p) h1.2 h2.2]
theorem srt_perm (xs : List Int) : (srt xs).Perm xs := List.mergeSort_perm xs _
theorem srt_le (xs : List Int) : (srt xs).Pairwise (· ≤ ·) := by
  have h := List.pairwise_mergeSort (le := fun a b : Int => decide (a ≤ b)) (fun a b c h1 h2 => by simp at h1 h2 ⊢; omega) (fun a b => by simp; omega) xs
  exact h.imp (by simp)
theorem srt_of {xs ys : List Int} (hp : ys.Perm xs) (hs : ys.Pairwise (· ≤ ·)) : srt xs = ys := sorted_uniq ((srt_perm xs).trans hp.symm) (srt_le xs) hs
theorem mem_dd : ∀ {xs : List Int} {x : Int}, x ∈ dd xs ↔ x ∈ xs
  | [], x => by simp [dd]
  | y :: xs, x => by
    unfold dd
    split
    · rename_i h
      rw [mem_dd, List.mem_cons]
      exact ⟨.inr, fun z => z.elim (fun e => e ▸ h) id⟩
    · rw [List.mem_cons, List.mem_cons, mem_dd]
theorem nodup_dd : ∀ xs : List Int, (dd xs).Nodup
  | [] => by simp [dd]
  | y :: xs => by
    unfold dd
    split
    · exact nodup_dd xs
    · rename_i h
      exact List.nodup_cons.mpr ⟨fun z => h (mem_dd.mp z), nodup_dd xs⟩
theorem dd_of_nodup : ∀ {xs : List Int}, xs.Nodup → dd xs = xs
  | [], _ => rfl
  | y :: xs, h => by
    obtain ⟨h1, h2⟩ := List.nodup_cons.mp h
    unfold dd
    rw [if_neg h1, dd_of_nodup h2]
theorem dd_length_le : ∀ xs : List Int, (dd xs).length ≤ xs.length
  | [] => Nat.le_refl _
  | y :: xs => by
    unfold dd
    split
    · exact Nat.le_trans (dd_length_le xs) (by simp)
    · simp [dd_length_le xs]
theorem dd_length_nodup : ∀ {xs : List Int}, (dd xs).length = xs.length → xs.Nodup
  | [], _ => by simp
  | y :: xs, h => by
    unfold dd at h
    split at h
    · have := dd_length_le xs
      simp at h; omega
    · rename_i hn
      exact List.nodup_cons.mpr ⟨hn, dd_length_nodup (by simpa using h)⟩
theorem perm_of_mem {xs ys : List Int} (h1 : xs.Nodup) (h2 : ys.Nodup) (h : ∀ k, k ∈ xs ↔ k ∈ ys) : xs.Perm ys := (List.perm_ext_iff_of_nodup h1 h2).mpr h
theorem sc_sorted : SdC g W (rSortedI g.K) fSorted := fun ι S H xs vs σ Q s r h1 => by
  unfold fSorted at h1
  split at h1
  · obtain ⟨v, rfl, vx⟩ := vrs1 r
    split at h1
    · rename_i ns en
      obtain ⟨a, rfl, hq⟩ := getI_ok s vx en
      refine ⟨a, ns, rfl, hq, fun ns' p hp hs hn => ?_⟩
      rw [← srt_of hp hs]
      exact h1 _ _ (Ext.snoc hn) (s.lst hn (vr_ints _)) _ s.newRef
    · exact h1.elim
  · exact h1.elim
def rSORTD : List V → Hp → VK → Prop := fun xs H Q => ∃ (a : Addr) (kvs : List (Key × V)) (ks : List Int), xs = [.ref a] ∧ Rd H a (.dK kvs) ∧ kvs.map (·.1) = ks.map Sum.inl ∧ ks.length < 64 ∧
    ∀ (ys : List Int) (p : Addr), ys.Perm ks → ys.Pairwise (· ≤ ·) → H p = none → Q (.ref p) (upd H p (.lst (ys.map V.int)))
theorem call_SORTD {X : Cx} (hc : X.calm = true) : CallR X (.builtin "sorted") rSORTD := call_sortedDI hc
theorem keys_kr {es : List (Int × Va)} {kvs : List (Key × V)} (h : Paired (KR g ι) es kvs) : kvs.map (·.1) = (es.map (·.1)).map Sum.inl := by
  induction h with
  | nil => rfl
  | cons q t ih => rw [List.map_cons, List.map_cons, List.map_cons, ih, q.1]
theorem sc_sortedD : SdC g W rSORTD fSortedD := fun ι S H xs vs σ Q s r h1 => by
  unfold fSortedD at h1
  split at h1
  · rename_i x
    obtain ⟨v, rfl, vx⟩ := vrs1 r
    split at h1
    · rename_i ns en
      split at h1
      · rename_i hl
        unfold keysOf at en
        split at en
        · split at en
          · rename_i es ee
            cases en
            obtain ⟨p, rfl, _, kvs, hp, rp⟩ := s.ref ee vx
            refine ⟨p, kvs, _, rfl, .inl hp, keys_kr rp, hl, fun ys q hq hs hn => ?_⟩
            rw [← srt_of hq hs]
            exact h1 _ _ (Ext.snoc hn) (s.lst hn (vr_ints _)) _ s.newRef
          · cases en
        · cases en
      · exact h1.elim
    · exact h1.elim
  · exact h1.elim
end
end IL

end
section
set_option Elab.async false
set_option linter.all false
set_option maxRecDepth 100000
set_option maxHeartbeats 4000000
namespace ILS
open PySem PySem.Spec PyProof.Rows L2
/-- an empty set's object, as set(..) lays it -/
abbrev emp (w : World) : Obj := { cls := .type "set", dict := none, data := .set #[] 0 (.fresh 0 0 (!w.params.followText "set-order")) }
section
variable {P : Program} {w : World} {A : Around} {E : Value → Shared → Prop} {s : Shared}
theorem set_of_list {l : Addr} {its : Array Value} (xs : List Int) {Q : Value → Shared → Prop} (nohandle : A.handled = none) (isl : s.heap.IsList l its) (are : IntsAre its.toList xs) (few : xs.length + 1 < scanBound)
    (fin : ∀ (hp : Heap) (tk c : Nat), SetR w hp s.heap.objs.size (fun j => decide (j ∈ xs)) c → c ≤ xs.length → (∀ b o, s.heap.get? b = some o → hp.get? b = some o) → Q (.ref s.heap.objs.size) { s with heap := hp, toks := tk }) :
    wpAny (model P w) A (call (.type "set") [.ref l]) Q E s := by
  have size_eq : its.size = xs.length := by
    have z := IntsAre.length are
    rwa [Array.length_toList] at z
  obtain ⟨cc, tl, mro⟩ := F.called_set.mro
  have made := F.called_set.made; have sub := F.called_set.sub
  refine wpAny_call (codeAny_of_tree ?_)
  show wpAny _ _ (callAny (.type "set") _) _ _ _
  refine wpAny_pure ⟨Code.quiet_builtin _ (by decide +kernel), codeAny_builtin F.entry_type_call (?_)⟩
  rw [Around.under_plain (weight_type_call_type "set" [.ref l] []) (by rfl)]
  have c1 := F.called_set.notType; have c2 := F.called_set.canCreate; have c3 := F.typeCall_set_1 (.ref l)
  repeat (any_goals first | assumption | wp_step)
  refine codeAny_mono (code_set_led1 (.ref l) (E := E) (Q₁ := fun ob st => ob = .ref s.heap.objs.size ∧ st = { s with heap := s.heap.push (emp w) }) ⟨rfl, rfl⟩) fun res st hres => ?_
  cases res with
  | error e => exact hres
  | ok flow =>
    cases flow with
    | ret ob =>
      obtain ⟨rfl, rfl⟩ := hres
      have at0 : (s.heap.push (emp w)).get? s.heap.objs.size = some (emp w) := Heap.get?_push_size _ rfl
      have ty0 : Shared.TypeIs { s with heap := s.heap.push (emp w) } (.ref s.heap.objs.size) "set" := ⟨_, at0, rfl⟩
      have i1 := F.called_set.init.lookup; have i2 := F.called_set.init.bind (.ref s.heap.objs.size)
      repeat (any_goals first | assumption | wp_step)
      refine codeAny_mono (codeAny_call_builtin (R := wants (fun rv st2 => rv = .none ∧ ∃ hp tk c, st2 = { s with heap := hp, toks := tk } ∧ SetR w hp s.heap.objs.size (fun j => decide (j ∈ xs)) c ∧ c ≤ xs.length ∧
          (∀ b o, s.heap.get? b = some o → hp.get? b = some o)) E) F.called_set.init.plain F.entry_set_init (check_set_init_1 ty0 (?_))) fun res2 st2 hres2 => ?_
      · obtain ⟨ob, hob, hc, nn, hdat⟩ := isl
        obtain ⟨c0, dd, data, sl⟩ := ob
        simp only at hc hdat
        subst hc hdat
        have old : (s.heap.push (emp w)).get? l = some { cls := .type "list", dict := dd, data := .seq its nn, slots := sl } := Heap.get?_push_of_some _ hob
        have k1 := F.sub_list_set; have k2 := F.sub_list_frozenset
        have k3 : (Value.type "list" == Value.type "dict") = false := by rfl
        have isl1 : (s.heap.push (emp w)).IsList l its := ⟨_, old, rfl, nn, rfl⟩
        unfold Builtin.«set.__init__» noKeywords Builtin.Frozenset.updateFrom
        generalize ePI : pyIter = PI
        wp_walk
        subst ePI
        refine wpAny_pyIter_list isl1 (?_)
        refine wpAny_bind (wpAny_runValue (?_))
        have lt0 : l < s.heap.objs.size := Heap.lt_size hob
        have nh : A.in1.in1.in1.handled = none := by simp [nohandle]
        have neI : l ≠ (s.heap.push (emp w)).objs.size := by
          rw [Heap.size_push]
          exact Nat.ne_of_lt (Nat.lt_succ_of_lt lt0)
        have nin : s.heap.objs.size ∉ [(s.heap.push (emp w)).objs.size, l] := by
          rw [Heap.size_push]
          intro z
          rcases List.mem_cons.mp z with e | z
          · exact absurd e (Nat.ne_of_lt (Nat.lt_succ_self _))
          · exact absurd (List.mem_singleton.mp z) (Nat.ne_of_gt lt0)
        have vals : ∀ (i : Nat) (v : Value), its[i]? = some v → ∃ k t, xs[i]? = some k ∧ v = .int k t := fun i v hv => by
          have hi : i < xs.length := by
            rw [← size_eq]
            exact (Array.getElem?_eq_some_iff.mp hv).1
          obtain ⟨t, e⟩ := IntsAre.int_at are i v (by rw [Array.getElem?_toList]; exact hv)
          refine ⟨xs[i], t, List.getElem?_eq_getElem hi, ?_⟩
          rw [e, List.getD_eq_getElem?_getD, List.getElem?_eq_getElem hi] <;> rfl
        refine set_update_ints ((Walks.list nh _ l neI its).toS) s.heap.objs.size nin xs size_eq few vals (its.size - 0) 0 _ (by omega) (Nat.zero_le _) ⟨⟨_, Heap.get?_push_size _ rfl, rfl, rfl⟩, isl1.push _⟩ ?start ?stop
        case start =>
          exact ⟨0, Nat.le_refl 0, setR_new_at (Heap.get?_push_of_some _ at0)⟩
        case stop =>
          intro s' c' hm hc' hS'
          obtain ⟨hp, g2, d2, tk2, os2⟩ := s'
          have eg : g2 = s.gens := hm.gens
          have ed : d2 = s.drawn := hm.drawn
          have eo : os2 = s.os := hm.os
          subst eg ed eo
          show wpAny _ _ _ _ _ _
          refine wpAny_pure (?_)
          show wpAny _ _ (ret Value.none) _ _ _
          rw [size_eq] at hc'
          refine wpAny_pure ⟨rfl, hp, tk2, c', rfl, hS', hc', fun b o e => ?_⟩
          have lb : b < s.heap.objs.size := Heap.lt_size e
          refine hm.heap b o (fun z => ?_) (Heap.get?_push_of_some _ (Heap.get?_push_of_some _ e))
          rcases List.mem_cons.mp z with e1 | z
          · exact absurd e1 (Nat.ne_of_lt lb)
          · rw [List.mem_singleton, Heap.size_push] at z
            exact absurd z (Nat.ne_of_lt (Nat.lt_succ_of_lt lb))
      · cases res2 with
        | error e => exact hres2
        | ok flow2 =>
          cases flow2 with
          | ret rv =>
            obtain ⟨rfl, hp, tk, c', rfl, hS', hc', hk'⟩ := hres2
            repeat (any_goals first | assumption | wp_step)
            exact fin _ _ _ hS' hc' hk'
          | _ => exact hres2.elim
    | _ => exact hres.elim
end
end ILS
namespace IL
open PySem PySem.Spec PyProof.Rows L2
/-- set(xs), xs a list of ints -/
def rSET (K : PySem.W.Frag) (w : World) : List V → Hp → VK → Prop := fun vs H Q => ∃ (l : Addr) (xs : List Int), vs = [.ref l] ∧ SqL K H l (xs.map V.int) ∧ xs.length ≤ 1000 ∧ ∀ p c, H p = none → c ≤ xs.length → Q (.ref p) (upd H p (SetO w p (fun j => decide (j ∈ xs)) c))
theorem call_SET {X : Cx} (hc : X.calm = true) : CallR X (.type "set") (rSET X.K X.w) := by
  intro pins s σ H vs us Q I r h
  obtain ⟨l, xs, rfl, hs, hl, q⟩ := h
  obtain ⟨its, rv, pl, _⟩ := I.list hs
  rw [Vals.ref1 r]
  refine ILS.set_of_list xs (I.ok.hd hc) pl.isList (by simpa using rv.ints) (by unfold scanBound; omega) fun hp tk c R hcn k => ?_
  exact ⟨.ref s.heap.objs.size, _, I.laid (a := s.heap.objs.size) (o := SetO X.w s.heap.objs.size (fun j => decide (j ∈ xs)) c) (t' := tk) (fun b o e => k b o e) (Nat.le_refl _) (setO_new R), rfl, q _ c I.fresh hcn⟩
/-- len(s), s a set of ints -/
def rLENSET (w : World) : List V → Hp → VK → Prop := fun vs H Q => ∃ (a : Addr) (S : Int → Bool) (n : Nat), vs = [.ref a] ∧ H a = some (SetO w a S n) ∧ ∀ L : List Int, L.Nodup → (∀ k, k ∈ L ↔ S k = true) → L.length = n → Q (.int (n : Int)) H
theorem call_LENSET {X : Cx} : CallR X (.builtin "len") (rLENSET X.w) := by
  intro pins s σ H vs us Q I r h
  obtain ⟨a, S, n, rfl, ha, q⟩ := h
  obtain ⟨o, es, ep, t, ho, hex, hd, g, nd, hm, hb, hf, hn, hr, hl⟩ := setO_get I ha
  rw [Vals.ref1 r]
  refine call_len_set ho hex hd hf (by unfold scanBound at hb; omega) ⟨.int n, H, I.tok _, ⟨_, by rw [hn]⟩, ?_⟩
  exact q (es.toList.map L2.keyOf) nd (fun k => (hm k).symm) (by rw [List.length_map, Array.length_toList, hn])
end IL

end
section
set_option Elab.async false
set_option linter.all false
set_option maxRecDepth 100000
set_option maxHeartbeats 2000000
namespace IL
open PySem L2
section
variable {g : Gm} {W : WH} {ι : List Addr} {S : Sto} {H : Hp} {ta tb te : TE} {ia ib ie : IE}
/-! ### sets -/
theorem sd_sortedSet {w : World} {t : TA} {i : IA} (ha : SdA g W t i) : SdE g W (tCB (rSortedSet w) (tCons (tCB (rSET g.K w) t) tNil)) (iCB fSortedSet i) := fun ι ρ S σ H Q s e h =>
  ha ι ρ S σ H _ s e (h.then fun xs ι1 S1 H1 l s1 h1 vs r => by
    unfold fSortedSet at h1
    split at h1
    · obtain ⟨v, rfl, vx⟩ := vrs1 r
      split at h1
      · rename_i ns en
        split at h1
        · rename_i hl
          obtain ⟨a, rfl, hq⟩ := getI_ok s1 vx en
          refine ⟨a, ns, rfl, hq, by omega, fun p c hp hc => ⟨p, _, c, rfl, upd_same, by omega, fun ms q h2 h3 h4 hq' => ?_⟩⟩
          have hm : ∀ k, k ∈ ms ↔ k ∈ dd ns := fun k => by rw [h3, mem_dd, decide_eq_true_iff]
          have hnd : ms.Nodup := h2.imp fun h => by omega
          have e : srt (dd ns) = ms := srt_of (perm_of_mem hnd (nodup_dd ns) hm) (h2.imp fun h => by omega)
          rw [← e]
          have s2 : Sim g ι1 S1 (upd H1 p (SetO w p (fun j => decide (j ∈ ns)) c)) := s1.more hp
          exact h1 _ _ ((Ext.new hp).trans (Ext.snoc hq')) (s2.lst hq' (vr_ints _)) _ s2.newRef
        · exact h1.elim
      · exact h1.elim
    · exact h1.elim)
theorem sd_lenSet {w : World} {t : TA} {i : IA} (ha : SdA g W t i) : SdE g W (tCB (rLENSET w) (tCons (tCB (rSET g.K w) t) tNil)) (iCB fLenSet i) := fun ι ρ S σ H Q s e h =>
  ha ι ρ S σ H _ s e (h.then fun xs ι1 S1 H1 l s1 h1 vs r => by
    unfold fLenSet at h1
    split at h1
    · obtain ⟨v, rfl, vx⟩ := vrs1 r
      split at h1
      · rename_i ns en
        split at h1
        · rename_i hl
          obtain ⟨a, rfl, hq⟩ := getI_ok s1 vx en
          refine ⟨a, ns, rfl, hq, hl, fun p c hp hc => ⟨p, _, c, rfl, upd_same, fun L h2 h3 h4 => ?_⟩⟩
          have hm : ∀ k, k ∈ L ↔ k ∈ dd ns := fun k => by rw [h3, mem_dd, decide_eq_true_iff]
          have e : c = (dd ns).length := by rw [← h4]; exact (perm_of_mem h2 (nodup_dd ns) hm).length_eq
          subst e
          exact h1 _ _ (Ext.new hp) (s1.more hp) _ rfl
        · exact h1.elim
      · exact h1.elim
    · exact h1.elim)
/-! ### methods of lists -/
theorem sd_bm {r : V → List V → Hp → VK → Prop} {f : Va → List Va → Sto → R Va} {t : TA} {i : IA} (hr : SdM g W r f) (ho : SdE g W ta ia) (ha : SdA g W t i) : SdE g W (tBM g.K "list" r ta t) (iBM f ia i) := fun ι ρ S σ H Q s e h =>
  ho ι ρ S σ H _ s e (h.then fun x ι1 S1 H1 l s1 h1 v vx => by
    try dsimp only at h1
    split at h1
    · rename_i ys hy
      refine ⟨?_, ha ι1 ρ S1 σ H1 _ s1 (e.mono l.le) (h1.then fun xs ι2 S2 H2 l2 s2 h2 vs r => hr ι2 S2 H2 x v xs vs σ Q s2 (vx.mono l2.le) r h2)⟩
      obtain ⟨a, vs, rfl, hq, _⟩ := getL_ok s1 vx hy
      exact .inl ⟨rfl, vs, hq⟩
    · exact h1.elim)
theorem sd_bm0 {r : V → List V → Hp → VK → Prop} {f : Va → List Va → Sto → R Va} (hr : SdM g W r f) (ho : SdE g W ta ia) : SdE g W (tBM0 g.K "list" r ta) (iBM f ia iNil) := fun ι ρ S σ H Q s e h =>
  ho ι ρ S σ H _ s e (h.then fun x ι1 S1 H1 l s1 h1 v vx => by
    try dsimp only at h1
    split at h1
    · rename_i ys hy
      refine ⟨?_, hr ι1 S1 H1 x v [] [] σ Q s1 vx .nil h1⟩
      obtain ⟨a, vs, rfl, hq, _⟩ := getL_ok s1 vx hy
      exact .inl ⟨rfl, vs, hq⟩
    · exact h1.elim)
theorem notFrz_lst {a : Addr} {vs : List V} (h : H a = some (.lst vs)) : ∀ ob u, H a ≠ some (.frz ob u) := fun ob u z => by rw [h] at z; cases z
theorem Sim.putL (s : Sim g ι S H) {n : Nat} {a : Addr} {vs ws : List V} {xs : List Va} (e : ι[n]? = some a) (h : H a = some (.lst vs)) (r : VRs g ι xs ws) : Sim g ι (S.set n (.lst xs)) (upd H a (.lst ws)) := s.put e (notFrz_lst h) ⟨ws, upd_same, r⟩
theorem sm_append : SdM g W rAppend mAppend := fun ι S H x v xs vs σ Q s vx r h1 => by
  unfold mAppend at h1
  split at h1
  · rename_i n y
    split at h1
    · rename_i zs ez
      split at h1
      · rename_i hl
        obtain ⟨u, rfl, vy⟩ := vrs1 r
        obtain ⟨a, rfl, ea, ws, hp, rp⟩ := s.ref ez vx
        exact ⟨a, ws, u, rfl, rfl, hp, Evl.sz_lt (by rw [← Paired.len rp]; exact hl), h1 _ _ (Ext.put ea (notFrz_lst hp)) (s.putL ea hp (Paired.append rp (.cons vy .nil))) _ rfl⟩
      · exact h1.elim
    · exact h1.elim
  · exact h1.elim
theorem sm_extend : SdM g W rExtend mExtend := fun ι S H x v xs vs σ Q s vx r h1 => by
  unfold mExtend at h1
  split at h1
  · rename_i n m
    split at h1
    · rename_i zs ys ez ey
      split at h1
      · rename_i hl
        obtain ⟨u, rfl, vy⟩ := vrs1 r
        obtain ⟨a, rfl, ea, ws, hp, rp⟩ := s.ref ez vx
        obtain ⟨b, rfl, eb, us, hq, rq⟩ := s.ref ey vy
        exact ⟨a, b, ws, us, rfl, rfl, hp, hq, sz (by rw [← Paired.len rp, ← Paired.len rq]; exact hl), h1 _ _ (Ext.put ea (notFrz_lst hp)) (s.putL ea hp (Paired.append rp rq)) _ rfl⟩
      · exact h1.elim
    · exact h1.elim
  · exact h1.elim
theorem sm_pop : SdM g W rPop mPop := fun ι S H x v xs vs σ Q s vx r h1 => by
  unfold mPop at h1
  split at h1
  · rename_i n
    split at h1
    · rename_i zs ez
      split at h1
      · rename_i y ey
        cases vrs0 r
        obtain ⟨a, rfl, ea, ws, hp, rp⟩ := s.ref ez vx
        obtain ⟨u, hu, ru⟩ := Paired.get rp ey
        refine ⟨a, ws, u, rfl, rfl, hp, by rw [← Paired.len rp]; exact hu, h1 _ _ (Ext.put ea (notFrz_lst hp)) (s.putL ea hp ?_) _ ru⟩
        rw [List.dropLast_eq_take, List.dropLast_eq_take, ← Paired.len rp]
        exact Paired.take _ rp
      · exact h1.elim
    · exact h1.elim
  · exact h1.elim
theorem sm_reverse : SdM g W rReverse mReverse := fun ι S H x v xs vs σ Q s vx r h1 => by
  unfold mReverse at h1
  split at h1
  · rename_i n
    split at h1
    · rename_i zs ez
      cases vrs0 r
      obtain ⟨a, rfl, ea, ws, hp, rp⟩ := s.ref ez vx
      exact ⟨a, ws, rfl, rfl, hp, h1 _ _ (Ext.put ea (notFrz_lst hp)) (s.putL ea hp (Paired.reverse rp)) _ rfl⟩
    · exact h1.elim
  · exact h1.elim
theorem flatAt {xs : List Va} (f : xs.all flatA = true) {j : Nat} {z : Va} (h : xs[j]? = some z) : flatA z = true := List.all_eq_true.mp f z (List.mem_of_getElem? h)
theorem Paired.getR {α β : Type} {F : α → β → Prop} : ∀ {xs : List α} {us : List β} {i : Nat} {u : β}, Paired F xs us → us[i]? = some u → ∃ x, xs[i]? = some x ∧ F x u
  | _, _, _, _, .nil, e => by simp at e
  | _, _, 0, _, .cons r _, e => by simp at e; subst e; exact ⟨_, rfl, r⟩
  | _, _, i + 1, x, .cons _ t, e => by
    obtain ⟨u, h1, h2⟩ := Paired.getR (i := i) (u := x) t (by simpa using e)
    exact ⟨u, by simpa using h1, h2⟩
theorem sm_index : SdM g W (rIndex g.K) mIndex := fun ι S H x v xs vs σ Q s vx r h1 => by
  unfold mIndex at h1
  split at h1
  · rename_i y
    split at h1
    · rename_i zs ez
      split at h1
      · rename_i hf
        split at h1
        · rename_i j ej
          obtain ⟨u, rfl, vy⟩ := vrs1 r
          obtain ⟨a, ws, rfl, hq, rp⟩ := getL_ok s vx ez
          obtain ⟨hj, hz, hlt⟩ := List.findIdx?_eq_some_iff_getElem.mp ej
          have ez' : zs[j]? = some zs[j] := by simp [hj]
          obtain ⟨z, e1, e2⟩ := Paired.get rp ez'
          refine ⟨a, ws, u, j, z, rfl, rfl, hq, flat_vr vy hf.1, flats_vr rp hf.2, e1, ?_, fun m z' hm em => ?_, h1 _ _ (Ext.refl _ _) s _ rfl⟩
          · rw [eq_vr e2 vy (flatAt hf.2 ez') hf.1]; exact hz
          · obtain ⟨zz, e3, e4⟩ := Paired.getR rp em
            rw [eq_vr e4 vy (flatAt hf.2 e3) hf.1]
            have := hlt m hm
            obtain ⟨hm', e5⟩ := List.getElem?_eq_some_iff.mp e3
            rw [e5] at this
            simpa using this
        · exact h1.elim
      · exact h1.elim
    · exact h1.elim
  · exact h1.elim
/-! ### slices -/
theorem cut_vr {xs : List Va} {vs : List V} (r : VRs g ι xs vs) (lo hi : Option Int) : VRs g ι (cut xs lo hi) (cutV vs lo hi) := by
  unfold cut cutV
  rw [← Paired.len r]
  exact Paired.take _ (Paired.drop _ r)
def SdO (g : Gm) (W : WH) (t : TO) (i : IO) : Prop := ∀ ι ρ S σ H (Q : Option Int → Hp → Prop), Sim g ι S H → ER g ι ρ σ → P g ι H (W · σ) (fun b _ H' => Q b H') (i ρ S) → t σ H Q
theorem so_none : SdO g W tNoPart iNoPart := fun ι ρ S σ H Q s e h => h ι H (Ext.refl _ _) s
theorem so_some (ha : SdE g W ta ia) : SdO g W (tPart ta) (iPart ia) := fun ι ρ S σ H Q s e h =>
  ha ι ρ S σ H _ s e (h.then fun x ι1 S1 H1 l s1 h1 v vx => by
    try dsimp only at h1
    split at h1
    · cases vx
      exact ⟨_, rfl, h1 _ _ (Ext.refl _ _) s1⟩
    · exact h1.elim)
theorem sd_sl {tl th : TO} {il ih : IO} (ha : SdE g W ta ia) (hl : SdO g W tl il) (hh : SdO g W th ih) : SdE g W (tSl (rSlL g.K) ta tl th) (iSl ia il ih) := fun ι ρ S σ H Q s e h =>
  ha ι ρ S σ H _ s e (h.then fun x ι1 S1 H1 l1 s1 h1 v vx => hl ι1 ρ S1 σ H1 _ s1 (e.mono l1.le) (h1.then fun lo ι2 S2 H2 l2 s2 h2 => hh ι2 ρ S2 σ H2 _ s2 ((e.mono l1.le).mono l2.le) (h2.then fun hi ι3 S3 H3 l3 s3 h3 => by
    try dsimp only at h3
    split at h3
    · rename_i xs ex
      obtain ⟨a, vs, rfl, hq, r⟩ := getL_ok s3 ((vx.mono l2.le).mono l3.le) ex
      exact ⟨a, vs, rfl, hq, fun p hp => h3 _ _ (Ext.snoc hp) (s3.lst hp (cut_vr r lo hi)) _ s3.newRef⟩
    · exact h3.elim)))
theorem sd_rev (ha : SdE g W ta ia) : SdE g W (tRevL g.K ta) (iRev ia) := fun ι ρ S σ H Q s e h =>
  ha ι ρ S σ H _ s e (h.then fun x ι1 S1 H1 l1 s1 h1 v vx => by
    try dsimp only at h1
    split at h1
    · rename_i xs ex
      obtain ⟨a, vs, rfl, hq, r⟩ := getL_ok s1 vx ex
      exact ⟨a, vs, rfl, hq, fun p hp => h1 _ _ (Ext.snoc hp) (s1.lst hp (Paired.reverse r)) _ s1.newRef⟩
    · exact h1.elim)
/-! ### dicts -/
theorem inl_dec (a b : Int) : decide ((Sum.inl a : Key) = Sum.inl b) = decide (a = b) := by
  by_cases h : a = b
  · subst h; simp
  · rw [decide_eq_false h]; exact decide_eq_false fun z => h (Sum.inl.inj z)
theorem kr_find {es : List (Int × Va)} {kvs : List (Key × V)} (k : Int) (r : Paired (KR g ι) es kvs) : (lkD es k = none ∧ valV kvs (.inl k) = none) ∨ ∃ d v, lkD es k = some d ∧ valV kvs (.inl k) = some v ∧ VR g ι d v := by
  induction r with
  | nil => exact .inl ⟨rfl, rfl⟩
  | @cons e kv es kvs q t ih =>
    obtain ⟨k', d⟩ := e
    obtain ⟨k2, v⟩ := kv
    obtain ⟨q1, q2⟩ := q
    dsimp only at q1 q2
    subst q1
    by_cases e : k' = k
    · subst e
      refine .inr ⟨d, v, ?_, valV_pos rfl, q2⟩
      simp [lkD, List.find?_cons]
    · have e' : ¬ ((Sum.inl k' : Key) = Sum.inl k) := fun z => e (Sum.inl.inj z)
      rw [valV_neg e']
      have : lkD ((k', d) :: es) k = lkD es k := by simp [lkD, List.find?_cons, e]
      rw [this]
      exact ih
theorem kr_any {es : List (Int × Va)} {kvs : List (Key × V)} (k : Int) (r : Paired (KR g ι) es kvs) : (kvs.any fun kv => decide (kv.1 = .inl k)) = es.any fun e => decide (e.1 = k) := by
  induction r with
  | nil => rfl
  | cons q t ih => rw [List.any_cons, List.any_cons, ih, q.1, inl_dec]
theorem kr_map {es : List (Int × Va)} {kvs : List (Key × V)} {d : Va} {v : V} (k : Int) (h : VR g ι d v) (r : Paired (KR g ι) es kvs) : Paired (KR g ι) (es.map fun e => if e.1 = k then (e.1, d) else e) (kvs.map fun kv => if kv.1 = .inl k then (kv.1, v) else kv) := by
  induction r with
  | nil => exact .nil
  | @cons e kv es kvs q t ih =>
    rw [List.map_cons, List.map_cons]
    refine .cons ?_ ih
    obtain ⟨q1, q2⟩ := q
    by_cases e1 : e.1 = k
    · rw [if_pos e1, if_pos (by rw [q1, e1])]
      exact ⟨q1, h⟩
    · rw [if_neg e1, if_neg (by rw [q1]; exact fun z => e1 (Sum.inl.inj z))]
      exact ⟨q1, q2⟩
theorem kr_put {es : List (Int × Va)} {kvs : List (Key × V)} {d : Va} {v : V} (k : Int) (r : Paired (KR g ι) es kvs) (h : VR g ι d v) : Paired (KR g ι) (putD es k d) (putK kvs (.inl k) v) := by
  unfold putK putD
  rw [kr_any k r]
  split
  · exact kr_map k h r
  · exact Paired.append r (.cons ⟨rfl, h⟩ .nil)
theorem getD_ok (s : Sim g ι S H) {x : Va} {v : V} {es : List (Int × Va)} (vx : VR g ι x v) (e : getD S x = some es) : ∃ a kvs, v = .ref a ∧ H a = some (.dK kvs) ∧ Paired (KR g ι) es kvs := by
  unfold getD at e
  split at e
  · split at e
    · rename_i ex
      cases e
      obtain ⟨p, rfl, _, vs, hp, rp⟩ := s.ref ex vx
      exact ⟨p, vs, rfl, hp, rp⟩
    · cases e
  · cases e
theorem sd_dnew : SdE g W tDNewK iDNew := fun ι ρ S σ H Q s e h p hp => h _ _ (Ext.snoc hp) (s.alloc hp ⟨[], upd_same, .nil⟩) _ s.newRef
theorem sd_dget (ha : SdE g W ta ia) (hb : SdE g W tb ib) : SdE g W (tDGet ta tb) (iDGet ia ib) := fun ι ρ S σ H Q s e h =>
  ha ι ρ S σ H _ s e (h.then fun x ι1 S1 H1 l s1 h1 v vx => hb ι1 ρ S1 σ H1 _ s1 (e.mono l.le) (h1.then fun y ι2 S2 H2 l2 s2 h2 u vy => by
    try dsimp only at h2
    split at h2
    · rename_i es k ee
      split at h2
      · rename_i d ed
        obtain ⟨a, kvs, rfl, hd, r⟩ := getD_ok s2 (vx.mono l2.le) ee
        cases vy
        rcases kr_find k r with ⟨z, _⟩ | ⟨d', w, z, zv, zd⟩
        · rw [ed] at z; cases z
        · rw [ed] at z; cases z
          exact ⟨a, w, rfl, by have := DGet.k (k := Sum.inl k) hd; rw [zv] at this; exact this, h2 _ _ (Ext.refl _ _) s2 _ zd⟩
      · exact h2.elim
    · exact h2.elim))
theorem sd_din (ha : SdE g W ta ia) (hb : SdE g W tb ib) : SdE g W (tDIn ta tb) (iDIn false ia ib) := fun ι ρ S σ H Q s e h =>
  ha ι ρ S σ H _ s e (h.then fun x ι1 S1 H1 l s1 h1 v vx => hb ι1 ρ S1 σ H1 _ s1 (e.mono l.le) (h1.then fun y ι2 S2 H2 l2 s2 h2 u vy => by
    try dsimp only at h2
    split at h2
    · rename_i es k ee
      obtain ⟨a, kvs, rfl, hd, r⟩ := getD_ok s2 vy ee
      cases vx
      refine ⟨a, _, rfl, DGet.k (k := Sum.inl k) hd, ?_⟩
      have := h2 _ _ (Ext.refl _ _) s2 _ rfl
      rcases kr_find k r with ⟨z, z2⟩ | ⟨d', w, z, zv, zd⟩
      · rw [z] at this; rw [z2]; exact this
      · rw [z] at this; rw [zv]; exact this
    · exact h2.elim))
theorem sd_dni (ha : SdE g W ta ia) (hb : SdE g W tb ib) : SdE g W (tDNotIn ta tb) (iDIn true ia ib) := fun ι ρ S σ H Q s e h =>
  ha ι ρ S σ H _ s e (h.then fun x ι1 S1 H1 l s1 h1 v vx => hb ι1 ρ S1 σ H1 _ s1 (e.mono l.le) (h1.then fun y ι2 S2 H2 l2 s2 h2 u vy => by
    try dsimp only at h2
    split at h2
    · rename_i es k ee
      obtain ⟨a, kvs, rfl, hd, r⟩ := getD_ok s2 vy ee
      cases vx
      refine ⟨a, _, rfl, DGet.k (k := Sum.inl k) hd, ?_⟩
      have := h2 _ _ (Ext.refl _ _) s2 _ rfl
      rcases kr_find k r with ⟨z, z2⟩ | ⟨d', w, z, zv, zd⟩
      · rw [z] at this; rw [z2]; exact this
      · rw [z] at this; rw [zv]; exact this
    · exact h2.elim))
theorem sd_disp1 (ha : SdE g W ta ia) (hb : SdE g W tb ib) : SdE g W (tDisp [(ta, tb)]) (iDisp1 ia ib) := fun ι ρ S σ H Q s e h p hp => by
  have nin : p ∉ ι := s.fresh hp
  have s0 : Sim g ι S (upd H p (.dK [])) := s.more hp
  have e0 : Ext ι H ι (upd H p (.dK [])) := Ext.new hp
  refine ha ι ρ S σ _ _ s0 e (h.thenB e0 fun x ι1 S1 H1 l s1 h1 v vx => hb ι1 ρ S1 σ H1 _ s1 (e.mono l.le) (h1.thenB (e0.trans l) fun y ι2 S2 H2 l2 s2 h2 u vy => ?_))
  obtain ⟨np, ep⟩ := (l.trans l2).fr p nin (by rw [upd_same]; intro z; cases z)
  rw [upd_same] at ep
  refine ⟨ep, ?_⟩
  try dsimp only at h2
  split at h2
  · rename_i k
    cases (vx.mono l2.le)
    refine ⟨[(.inl k, u)], rfl, by simp, ?_⟩
    exact h2 (ι2 ++ [p]) _ (Ext.join hp (l.trans l2)) (s2.join np (fun ob u z => by rw [ep] at z; cases z) ⟨_, upd_same, .cons ⟨rfl, vy.mono (Le.snoc _ _)⟩ .nil⟩) _ s2.newRef
  · exact h2.elim
/-! ### fields, list(range(..)) -/
theorem fr_lookup {f : Str} {fs : List (Str × Va)} {vs : List (Str × V)} {d : Va} (r : Paired (FR g ι) fs vs) (h : fs.lookup f = some d) : ∃ v, vs.lookup f = some v ∧ VR g ι d v := by
  induction r with
  | nil => simp [List.lookup] at h
  | @cons e kv fs vs q t ih =>
    obtain ⟨k, x⟩ := e
    obtain ⟨k2, v⟩ := kv
    obtain ⟨q1, q2⟩ := q
    dsimp only at q1 q2
    subst q1
    rw [List.lookup_cons] at h ⊢
    cases z : f == k2 with
    | true => rw [z] at h; simp at h; subst h; exact ⟨v, rfl, q2⟩
    | false => rw [z] at h; exact ih h
theorem fr_lookupN {f : Str} {fs : List (Str × Va)} {vs : List (Str × V)} (r : Paired (FR g ι) fs vs) (h : fs.lookup f = none) : vs.lookup f = none := by
  induction r with
  | nil => rfl
  | @cons e kv fs vs q t ih =>
    obtain ⟨k, x⟩ := e
    obtain ⟨k2, v⟩ := kv
    obtain ⟨q1, q2⟩ := q
    dsimp only at q1 q2
    subst q1
    rw [List.lookup_cons] at h ⊢
    cases z : f == k2 with
    | true => rw [z] at h; simp at h
    | false => rw [z] at h; exact ih h
theorem getO_ok (s : Sim g ι S H) {x : Va} {v : V} {c : Str} {fs : List (Str × Va)} (vx : VR g ι x v) (e : getO S x = some (c, fs)) : ∃ a dx vs, v = .ref a ∧ H a = some (.ins (g.γ c) dx vs) ∧ Paired (FR g ι) fs vs := by
  unfold getO at e
  split at e
  · split at e
    · rename_i ex
      cases e
      obtain ⟨p, rfl, _, dx, vs, hp, rp⟩ := s.ref ex vx
      exact ⟨p, dx, vs, rfl, hp, rp⟩
    · cases e
  · cases e
theorem sd_fld {f : Str} (cl : Cl g) (na : ∀ c ∈ clsL, NoAttr g.K (g.γ c) f) (ha : SdE g W ta ia) : SdE g W (tFld g.K ta f) (iFld ia f) := fun ι ρ S σ H Q s e h =>
  ha ι ρ S σ H _ s e (h.then fun x ι1 S1 H1 l1 s1 h1 v vx => by
    try dsimp only at h1
    split at h1
    · rename_i c fs eo
      split at h1
      · rename_i hc
        split at h1
        · rename_i d ed
          obtain ⟨a, dx, vs, rfl, hp, r⟩ := getO_ok s1 vx eo
          obtain ⟨w, e1, e2⟩ := fr_lookup r ed
          exact ⟨a, _, dx, vs, w, rfl, hp, cl.cls c hc, na c hc, e1, h1 _ _ (Ext.refl _ _) s1 _ e2⟩
        · exact h1.elim
      · exact h1.elim
    · exact h1.elim)
theorem rgV_rng (a b : Int) : VRs g ι ((rng a b).map .int) (rgV a b) := by
  have e : rgV a b = (rng a b).map V.int := by unfold rgV rng; rw [List.map_map]; rfl
  rw [e]; exact vr_ints _
theorem sd_listRg (ha : SdE g W ta ia) : SdE g W (tLstRg (tRg1 ta)) (iListRg ia) := fun ι ρ S σ H Q s e h =>
  ha ι ρ S σ H _ s e (h.then fun x ι1 S1 H1 l1 s1 h1 v vx => by
    try dsimp only at h1
    split at h1
    · rename_i n
      split at h1
      · rename_i hn
        cases vx
        exact ⟨n, rfl, RgOk.of_le (by omega) (by omega) (by omega) (by omega), fun p hp => h1 _ _ (Ext.snoc hp) (s1.lst hp (rgV_rng 0 n)) _ s1.newRef⟩
      · exact h1.elim
    · exact h1.elim)
end
end IL

end
section
set_option Elab.async false
set_option linter.all false
set_option maxRecDepth 100000
set_option maxHeartbeats 2000000
namespace IL
open PySem L2
/-! ### targets -/
def ItR (g : Gm) (ι : List Addr) (H : Hp) : It1 → V → Prop
  | .one x, v => VR g ι x v
  | .tup xs, v => ∃ T vs, v = .ref T ∧ H T = some (.tup vs) ∧ VRs g ι xs vs
def SdG (g : Gm) (W : WH) (gt : TG) (tg : IG) : Prop := ∀ ι S ρ σ H it v (Q : St → Hp → Prop), Sim g ι S H → ER g ι ρ σ → ItR g ι H it v → P g ι H (W · σ) (fun ρ' ι' H' => ∀ σ', ER g ι' ρ' σ' → Q σ' H') (tg it ρ S) → gt v σ H Q
def SdGs (g : Gm) (W : WH) (gt : TGs) (tgs : List IG) : Prop := ∀ ι S ρ σ H xs vs (Q : St → Hp → Prop), Sim g ι S H → ER g ι ρ σ → VRs g ι xs vs → P g ι H (fun c H' => ∀ σ', W c σ' H') (fun ρ' ι' H' => ∀ σ', ER g ι' ρ' σ' → Q σ' H') (runTgs tgs xs ρ S) → gt vs σ H Q
section
variable {g : Gm} {W : WH} {ι : List Addr} {S : Sto} {H : Hp} {ta tb te : TE} {ia ib ie : IE}
theorem sg_name {j : Nat} : SdG g W (gName j) (tgName j) := fun ι S ρ σ H it v Q s e r h => by
  cases it with
  | one x => exact h _ _ (Ext.refl _ _) s _ (e.set j r)
  | tup xs => exact h.elim
theorem setL_ok {α : Type} {T : α → List Addr → Hp → Prop} {W' : Str → Hp → Prop} {k : Unit → Sto → R α} {o i x : Va} {vo vi v : V} {Q : Hp → Prop} (s : Sim g ι S H) (ho : VR g ι o vo) (hi : VR g ι i vi) (hv : VR g ι x v) (h : P g ι H W' T ((setL o i x S).bind k))
    (f : ∀ S' H', Ext ι H ι H' → Sim g ι S' H' → P g ι H' W' T (k () S') → Q H') : rSetL vo vi v H Q := by
  unfold setL at h
  split at h
  · rename_i n z
    split at h
    · rename_i xs ex
      split at h
      · rename_i j ej
        obtain ⟨a, rfl, ea, vs, hp, rp⟩ := s.ref ex ho
        cases hi
        refine ⟨a, vs, z, j, rfl, rfl, hp, by rw [← Paired.len rp]; exact ej, ?_⟩
        exact f _ _ (Ext.put ea (notFrz_lst hp)) (s.putL ea hp (Paired.set hv j rp)) (P.le (Ext.put ea (notFrz_lst hp)) h)
      · exact h.elim
    · exact h.elim
  · exact h.elim
theorem sg_sub {to ti : TE} {io ii : IE} (ho : SdE g W to io) (hi : SdE g W ti ii) : SdG g W (gSub to ti rSetL) (tgSub io ii) := fun ι S ρ σ H it v Q s e r h => by
  cases it with
  | one x =>
    refine ho ι ρ S σ H _ s e (h.then fun y ι1 S1 H1 l s1 h1 u vy => hi ι1 ρ S1 σ H1 _ s1 (e.mono l.le) (h1.then fun z ι2 S2 H2 l2 s2 h2 w vz => ?_))
    refine setL_ok s2 (vy.mono l2.le) vz ((VR.mono l.le r).mono l2.le) h2 fun S3 H3 l3 s3 h3 => ?_
    exact h3 _ _ (Ext.refl _ _) s3 _ (e.mono (l.trans l2).le)
  | tup xs => exact h.elim
theorem sgs_nil : SdGs g W gNil [] := fun ι S ρ σ H xs vs Q s e r h => by
  cases r with
  | nil => exact ⟨rfl, h _ _ (Ext.refl _ _) s _ e⟩
  | cons a b => exact h.elim
theorem P.wmono {α : Type} {W W' : Str → Hp → Prop} {T : α → List Addr → Hp → Prop} {r : R α} (h : P g ι H W T r) (f : ∀ c H, W c H → W' c H) : P g ι H W' T r := by
  cases r with
  | ok x S' => exact h
  | ex c S' => exact fun ι' H' l s => f _ _ (h ι' H' l s)
  | no => exact h
theorem sgs_cons {gt : TG} {gs : TGs} {tg : IG} {tgs : List IG} (h1 : SdG g W gt tg) (h2 : SdGs g W gs tgs) : SdGs g W (gCons gt gs) (tg :: tgs) := fun ι S ρ σ H xs vs Q s e r h => by
  cases r with
  | nil => exact h.elim
  | @cons x v xs vs q t =>
    refine ⟨v, vs, rfl, h1 ι S ρ σ H (.one x) v _ s e q ?_⟩
    exact (h.then fun ρ1 ι1 S1 H1 l s1 h3 σ1 e1 => h2 ι1 S1 ρ1 σ1 H1 xs vs Q s1 e1 (VRs.mono l.le t) h3).wmono fun c H z => z σ
theorem runTgs_ne : ∀ (ts : List IG) (vs : List Va) (ρ : Env) (S : Sto), ts.length ≠ vs.length → (runTgs ts vs ρ S = .no ∨ ∃ c S', runTgs ts vs ρ S = .ex c S')
  | [], [], _, _, h => (h rfl).elim
  | [], v :: vs, _, _, _ => .inl rfl
  | t :: ts, [], _, _, _ => .inl rfl
  | t :: ts, v :: vs, ρ, S, h => by
    show ((t (.one v) ρ S).bind fun ρ1 S1 => runTgs ts vs ρ1 S1) = .no ∨ ∃ c S', ((t (.one v) ρ S).bind fun ρ1 S1 => runTgs ts vs ρ1 S1) = .ex c S'
    cases t (.one v) ρ S with
    | ok ρ1 S1 => exact runTgs_ne ts vs ρ1 S1 (by simpa using h)
    | ex c S1 => exact .inr ⟨c, S1, rfl⟩
    | no => exact .inl rfl
/-- names alone -/
def gNs : List Nat → TGs
  | [] => gNil
  | j :: js => gCons (gName j) (gNs js)
theorem sg_tup {n : Nat} {gs : TGs} {tgs : List IG} (h1 : SdGs g W0 gs tgs) : SdG g W0 (gTup g.K n gs) (tgTupN n tgs) := fun ι S ρ σ H it v Q s e r h => by
  cases it with
  | one x =>
    simp only [tgTupN] at h
    cases ex : getT S x with
    | none => rw [ex] at h; exact h.elim
    | some xs =>
      rw [ex] at h
      dsimp only at h
      split at h
      · rename_i hn
        obtain ⟨a, vs, rfl, ha, rv⟩ := getT_ok s r ex
        exact ⟨a, vs, rfl, SqT.of ha, by rw [← Paired.len rv]; exact hn, h1 ι S ρ σ H xs vs Q s e rv (h.wmono fun c H z => z.elim)⟩
      · exact h.elim
  | tup xs =>
    obtain ⟨T, vs, rfl, hT, rv⟩ := r
    simp only [tgTupN] at h
    split at h
    · rename_i hn
      exact ⟨T, vs, rfl, SqT.of hT, by rw [← Paired.len rv]; exact hn, h1 ι S ρ σ H xs vs Q s e rv (h.wmono fun c H z => z.elim)⟩
    · exact h.elim
/-! ### what is walked -/
/-- the walk J yields the items, as long as chk holds -/
def Wk (g : Gm) (ι : List Addr) (H : Hp) (J : It) (I : Its) : Prop := ∃ G Y, Walk J I.items.length G Y ∧ (∀ ι' S' H', Le ι ι' → Frz H H' → Sim g ι' S' H' → I.chk S' = true → G H') ∧
  ∀ i it ι' S' H1 x H2, I.items[i]? = some it → Le ι ι' → Frz H H1 → Sim g ι' S' H1 → I.chk S' = true → Y i H1 x H2 → Sim g ι' S' H2 ∧ Ext ι' H1 ι' H2 ∧ ItR g ι' H2 it x
def SdI (g : Gm) (W : WH) (wi : TI) (ii : II) : Prop := ∀ ι ρ S σ H (R : It → Hp → Prop), Sim g ι S H → ER g ι ρ σ → P g ι H (W · σ) (fun I ι' H' => ∀ J, Wk g ι' H' J I → R J H') (ii ρ S) → wi σ H R
theorem VR.fn {ι' : List Addr} {x : Va} {v w : V} (l : Le ι ι') (h : VR g ι x v) (h' : VR g ι' x w) : w = v := by
  cases x with
  | ref n =>
    obtain ⟨a, h1, rfl⟩ := h
    obtain ⟨b, h2, rfl⟩ := h'
    rw [l n a h1] at h2; cases h2; rfl
  | scr ns => exact h'.1.trans h.1.symm
  | exc c => exact h.elim
  | _ => exact h'.trans h.symm
theorem VRs.fn {ι' : List Addr} {xs : List Va} {vs ws : List V} (l : Le ι ι') (h : VRs g ι xs vs) (h' : VRs g ι' xs ws) : ws = vs := by
  induction h generalizing ws with
  | nil => cases h'; rfl
  | cons q t ih =>
    cases h' with
    | cons q' t' => rw [VR.fn l q q', ih t']
theorem sameAt_L (s : Sim g ι S H) {x : Va} {xs : List Va} {a : Addr} {vs : List V} (vx : VR g ι x (.ref a)) (e : getL S x = some xs) (r : VRs g ι xs vs) {ι' : List Addr} {S' : Sto} {H' : Hp} (l : Le ι ι') (s' : Sim g ι' S' H') (hc : sameAt S x S' = true) : SqL g.K H' a vs := by
  have e' : getL S' x = some xs := by
    cases x with
    | ref n => rw [← e]; simp only [sameAt, decide_eq_true_eq] at hc; simp only [getL, hc]
    | scr ns => exact e
    | _ => cases e
  obtain ⟨b, ws, h1, h2, h3⟩ := getL_ok s' (vx.mono l) e'
  cases h1
  rw [VRs.fn l r h3] at h2
  exact h2
theorem sameAt_T (s : Sim g ι S H) {x : Va} {xs : List Va} {a : Addr} {vs : List V} (vx : VR g ι x (.ref a)) (e : getT S x = some xs) (r : VRs g ι xs vs) {ι' : List Addr} {S' : Sto} {H' : Hp} (l : Le ι ι') (s' : Sim g ι' S' H') (hc : sameAt S x S' = true) : SqT g.K H' a vs := by
  have e' : getT S' x = some xs := by
    cases x with
    | ref n => rw [← e]; simp only [sameAt, decide_eq_true_eq] at hc; simp only [getT, hc]
    | _ => cases e
  obtain ⟨b, ws, h1, h2, h3⟩ := getT_ok s' (vx.mono l) e'
  cases h1
  rw [VRs.fn l r h3] at h2
  exact SqT.of h2
theorem si_list (ha : SdE g W ta ia) : SdI g W (iList g.K ta) (itList ia) := fun ι ρ S σ H R s e h =>
  ha ι ρ S σ H _ s e (h.then fun x ι1 S1 H1 l s1 h1 v vx => by
    try dsimp only at h1
    split at h1
    · rename_i xs ex
      obtain ⟨a, vs, rfl, hq, r⟩ := getL_ok s1 vx ex
      have wk : Walk (Itl g.K a) (xs.map It1.one).length (fun H => SqL g.K H a vs) (YAt vs) := by
        rw [List.length_map, Paired.len r]; exact walk_list (xs := vs)
      refine ⟨a, rfl, ⟨vs, hq⟩, h1 _ _ (Ext.refl _ _) s1 _ ⟨_, _, wk, fun ι' S' H' l' f' s' hc => sameAt_L s1 vx ex r l' s' hc, fun i it ι' S' H2 y H3 e1 l' f' s' hc hy => ?_⟩⟩
      obtain ⟨z1, z2⟩ := hy
      subst z1
      obtain ⟨y', e2, rfl⟩ := map_one_get e1
      obtain ⟨w, e3, e4⟩ := Paired.get r e2
      rw [e3] at z2; cases z2
      exact ⟨s', Ext.refl _ _, e4.mono l'⟩
    · exact h1.elim)
theorem si_tup (ha : SdE g W ta ia) : SdI g W (L2.iTup g.K ta) (itTup ia) := fun ι ρ S σ H R s e h =>
  ha ι ρ S σ H _ s e (h.then fun x ι1 S1 H1 l s1 h1 v vx => by
    try dsimp only at h1
    split at h1
    · rename_i xs ex
      obtain ⟨a, vs, rfl, hq, r⟩ := getT_ok s1 vx ex
      have wk : Walk (Itt g.K a) (xs.map It1.one).length (fun H => SqT g.K H a vs) (YAt vs) := by
        rw [List.length_map, Paired.len r]; exact walk_tup (xs := vs)
      refine ⟨a, rfl, ⟨vs, SqT.of hq⟩, h1 _ _ (Ext.refl _ _) s1 _ ⟨_, _, wk, fun ι' S' H' l' f' s' hc => sameAt_T s1 vx ex r l' s' hc, fun i it ι' S' H2 y H3 e1 l' f' s' hc hy => ?_⟩⟩
      obtain ⟨z1, z2⟩ := hy
      subst z1
      obtain ⟨y', e2, rfl⟩ := map_one_get e1
      obtain ⟨w, e3, e4⟩ := Paired.get r e2
      rw [e3] at z2; cases z2
      exact ⟨s', Ext.refl _ _, e4.mono l'⟩
    · exact h1.elim)
theorem rng_get {b : Int} {i : Nat} {k : Int} (h : (rng 0 b)[i]? = some k) : k = (i : Int) := by
  unfold rng at h
  rw [List.getElem?_map] at h
  cases e : (List.range (b - 0).toNat)[i]? with
  | none => rw [e] at h; cases h
  | some x =>
    rw [e] at h
    obtain ⟨h1, h2⟩ := List.getElem?_eq_some_iff.mp e
    rw [List.getElem_range] at h2
    have h3 : (0 : Int) + (x : Int) = k := Option.some.inj h
    omega
theorem rng_length (a b : Int) : (rng a b).length = (b - a).toNat := by unfold rng; rw [List.length_map, List.length_range]
theorem si_rng (ha : SdE g W ta ia) : SdI g W (iRng1 (tCons ta tNil)) (itRng ia) := fun ι ρ S σ H R s e h =>
  ha ι ρ S σ H _ s e (h.then fun x ι1 S1 H1 l s1 h1 v vx => by
    try dsimp only at h1
    split at h1
    · rename_i n
      split at h1
      · rename_i hn
        cases vx
        have wk : Walk (Itr 0 n.toNat) ((rng 0 n).map fun i => It1.one (.int i)).length (fun _ => True) (YFn fun i => .int (0 + i)) := by
          rw [List.length_map, rng_length, Int.sub_zero]; exact walk_range
        refine ⟨n, rfl, by omega, by omega, h1 _ _ (Ext.refl _ _) s1 _ ⟨_, _, wk, fun ι' S' H' l' f' s' hc => trivial, fun i it ι' S' H2 y H3 e1 l' f' s' hc hy => ?_⟩⟩
        obtain ⟨z1, z2⟩ := hy
        subst z1
        have e1' : ((rng 0 n).map fun i => It1.one (.int i))[i]? = some it := e1
        rw [List.getElem?_map] at e1'
        cases e2 : (rng 0 n)[i]? with
        | none => rw [e2] at e1'; cases e1'
        | some k =>
          rw [e2] at e1'
          have e3 := (Option.some.inj e1').symm
          subst e3
          refine ⟨s', Ext.refl _ _, ?_⟩
          show y = V.int k
          rw [z2, rng_get e2]
          show V.int (0 + (i : Int)) = _
          rw [Int.zero_add]
      · exact h1.elim
    · exact h1.elim)
theorem si_enum (ha : SdE g W ta ia) : SdI g W (iEnum g.K (tCons ta tNil)) (itEnum ia) := fun ι ρ S σ H R s e h =>
  ha ι ρ S σ H _ s e (h.then fun x ι1 S1 H1 l s1 h1 v vx => by
    try dsimp only at h1
    split at h1
    · rename_i xs ex
      obtain ⟨a, vs, rfl, hq, r⟩ := getL_ok s1 vx ex
      have wk : Walk (Ite g.K a) (enuI 0 xs).length (fun H => SqL g.K H a vs) (YPair (fun i => some (.int (i : Nat))) (fun i => vs[i]?)) := by
        rw [enuI_length, Paired.len r]; exact walk_enum (xs := vs)
      refine ⟨a, vs, rfl, hq, h1 _ _ (Ext.refl _ _) s1 _ ⟨_, _, wk, fun ι' S' H' l' f' s' hc => sameAt_L s1 vx ex r l' s' hc, fun i it ι' S' H2 y H3 e1 l' f' s' hc hy => ?_⟩⟩
      obtain ⟨T, x1, y1, rfl, hT, rfl, z1, z2⟩ := hy
      obtain ⟨x', e2, rfl⟩ := enuI_get 0 xs i it e1
      obtain ⟨w, e3, e4⟩ := Paired.get r e2
      have z2' : vs[i]? = some y1 := z2
      rw [e3] at z2'; cases z1; cases z2'
      exact ⟨s'.more hT, Ext.new hT, T, _, rfl, upd_same, .cons (by rw [Nat.zero_add]; rfl) (.cons (e4.mono l') .nil)⟩
    · exact h1.elim)
theorem si_zip (ha : SdE g W ta ia) (hb : SdE g W tb ib) : SdI g W (iZip g.K (tCons ta (tCons tb tNil))) (itZip ia ib) := fun ι ρ S σ H R s e h =>
  ha ι ρ S σ H _ s e (h.then fun x ι1 S1 H1 l s1 h1 v vx => hb ι1 ρ S1 σ H1 _ s1 (e.mono l.le) (h1.then fun y ι2 S2 H2 l2 s2 h2 u vy => by
    try dsimp only at h2
    split at h2
    · rename_i xs ys ex ey
      have vx2 := vx.mono l2.le
      obtain ⟨a, vs, rfl, hq, r⟩ := getL_ok s2 vx2 ex
      obtain ⟨b, ws, rfl, hq', r'⟩ := getL_ok s2 vy ey
      have wk : Walk (Itz g.K a b) (zipI xs ys).length (fun H => SqL g.K H a vs ∧ SqL g.K H b ws) (YPair (fun i => vs[i]?) (fun i => ws[i]?)) :=
        walk_zip (by rw [zipI_length, Paired.len r, Paired.len r'])
      refine ⟨a, b, vs, ws, rfl, hq, hq', h2 _ _ (Ext.refl _ _) s2 _ ⟨_, _, wk, fun ι' S' H' l' f' s' hc => ?_, fun i it ι' S' H3 z H4 e1 l' f' s' hc hy => ?_⟩⟩
      · have hc' : (sameAt S2 x S' && sameAt S2 y S') = true := hc
        rw [Bool.and_eq_true] at hc'
        exact ⟨sameAt_L s2 vx2 ex r l' s' hc'.1, sameAt_L s2 vy ey r' l' s' hc'.2⟩
      · obtain ⟨T, x1, y1, rfl, hT, rfl, z1, z2⟩ := hy
        obtain ⟨x', y', e2, e5, rfl⟩ := zipI_get xs ys i it e1
        obtain ⟨w, e3, e4⟩ := Paired.get r e2
        obtain ⟨w', e6, e7⟩ := Paired.get r' e5
        have z1' : vs[i]? = some x1 := z1
        have z2' : ws[i]? = some y1 := z2
        rw [e3] at z1'; rw [e6] at z2'; cases z1'; cases z2'
        exact ⟨s'.more hT, Ext.new hT, T, _, rfl, upd_same, .cons (e4.mono l') (.cons (e7.mono l') .nil)⟩
    · exact h2.elim))
end
end IL

end
section
set_option Elab.async false
set_option linter.all false
set_option maxRecDepth 100000
set_option maxHeartbeats 2000000
namespace IL
open PySem L2
/-! ### statements -/
def PO (g : Gm) (ι : List Addr) (H : Hp) (W : WH) (D : Ends) : O → Prop
  | .nx ρ S => ∀ ι' σ' H', Ext ι H ι' H' → Sim g ι' S H' → ER g ι' ρ σ' → D.nx σ' H'
  | .rt x S => ∀ ι' v H', Ext ι H ι' H' → Sim g ι' S H' → VR g ι' x v → D.rt v H'
  | .ex c ρ S => ∀ ι' σ' H', Ext ι H ι' H' → Sim g ι' S H' → ER g ι' ρ σ' → W c σ' H'
  | .no => False
def SdS (g : Gm) (W : WH) (t : TS) (i : IS) : Prop := ∀ ι ρ S σ H (D : Ends), Sim g ι S H → ER g ι ρ σ → PO g ι H W D (i ρ S) → t D σ H
section
variable {g : Gm} {W : WH} {ι : List Addr} {S : Sto} {H : Hp} {ta tb te : TE} {ia ib ie : IE} {t u : TS} {i j : IS} {D : Ends} {ρ : Env} {σ : St}
theorem PO.le {ι' : List Addr} {H' : Hp} {o : O} (l : Ext ι H ι' H') (h : PO g ι H W D o) : PO g ι' H' W D o := by
  cases o with
  | nx ρ S => exact fun a b c l2 => h a b c (l.trans l2)
  | rt ρ S => exact fun a b c l2 => h a b c (l.trans l2)
  | ex c ρ S => exact fun a b c l2 => h a b c (l.trans l2)
  | no => exact h
theorem PO.then {α : Type} {r : R α} {k : α → Sto → O} {T' : α → List Addr → Hp → Prop} (e : ER g ι ρ σ) (h : PO g ι H W D (r.toO ρ k)) (f : ∀ x ι' S' H', Ext ι H ι' H' → Sim g ι' S' H' → PO g ι' H' W D (k x S') → T' x ι' H') : P g ι H (W · σ) T' r := by
  cases r with
  | ok x S' => exact fun ι2 H2 l s => f x ι2 S' H2 l s (PO.le l h)
  | ex c S' => exact fun ι2 H2 l s => h ι2 σ H2 l s (e.mono l.le)
  | no => exact h
theorem ss_next : SdS g W tNext sNext := fun ι ρ S σ H D s e h => h _ _ _ (Ext.refl _ _) s e
theorem ss_seq (h1 : SdS g W t i) (h2 : SdS g W u j) : SdS g W (tSeq t u) (sSeq i j) := fun ι ρ S σ H D s e h => by
  refine h1 ι ρ S σ H { D with nx := u D } s e ?_
  have h' : PO g ι H W D ((i ρ S).seq j) := h
  cases hi : i ρ S with
  | nx ρ' S' => rw [hi] at h'; exact fun ι' σ' H' l s' e' => h2 ι' ρ' S' σ' H' D s' e' (PO.le l h')
  | rt v S' => rw [hi] at h'; exact h'
  | ex c ρ' S' => rw [hi] at h'; exact h'
  | no => rw [hi] at h'; exact h'
theorem ss_asg {gt : TG} {tg : IG} (he : SdE g W te ie) (hg : SdG g W gt tg) : SdS g W (tAsg te gt) (sAsg ie tg) := fun ι ρ S σ H D s e h =>
  he ι ρ S σ H _ s e (h.then e fun x ι1 S1 H1 l s1 h1 v vx => hg ι1 S1 ρ σ H1 (.one x) v _ s1 (e.mono l.le) vx (h1.then (e.mono l.le) fun ρ' ι2 S2 H2 l2 s2 h2 σ' e' => h2 _ _ _ (Ext.refl _ _) s2 e'))
theorem ss_par {a b : Nat} {tA : TA} {iA : IA} (ha : SdA g W tA iA) : SdS g W (tPar a b tA) (sPar a b iA) := fun ι ρ S σ H D s e h =>
  ha ι ρ S σ H _ s e (h.then e fun x ι1 S1 H1 l s1 h1 v vx => by
    try dsimp only at h1
    split at h1
    · obtain ⟨p, q, rfl, v1, v2⟩ := vrs2 vx
      exact ⟨p, q, rfl, h1 _ _ _ (Ext.refl _ _) s1 (((e.mono l.le).set a v1).set b v2)⟩
    · exact h1.elim)
theorem ss_par3 {a b c : Nat} {tA : TA} {iA : IA} (ha : SdA g W tA iA) : SdS g W (tPar3 a b c tA) (sPar3 a b c iA) := fun ι ρ S σ H D s e h =>
  ha ι ρ S σ H _ s e (h.then e fun x ι1 S1 H1 l s1 h1 v vx => by
    try dsimp only at h1
    split at h1
    · cases vx with
      | cons v1 r =>
        obtain ⟨p, q, rfl, v2, v3⟩ := vrs2 r
        exact ⟨_, p, q, rfl, h1 _ _ _ (Ext.refl _ _) s1 ((((e.mono l.le).set a v1).set b v2).set c v3)⟩
    · exact h1.elim)
theorem ss_expr (he : SdE g W te ie) : SdS g W (tDrop te) (sExpr ie) := fun ι ρ S σ H D s e h =>
  he ι ρ S σ H _ s e (h.then e fun x ι1 S1 H1 l s1 h1 v vx => h1 _ _ _ (Ext.refl _ _) s1 (e.mono l.le))
theorem ss_ret (he : SdE g W te ie) : SdS g W (tRet te) (sRet ie) := fun ι ρ S σ H D s e h =>
  he ι ρ S σ H _ s e (h.then e fun x ι1 S1 H1 l s1 h1 v vx => h1 _ _ _ (Ext.refl _ _) s1 vx)
theorem ss_retN : SdS g W tRetN sRetN := fun ι ρ S σ H D s e h => h _ _ _ (Ext.refl _ _) s rfl
theorem ss_if {tc : TT} {ic : IT} (hc : SdT g W tc ic) (h1 : SdS g W t i) (h2 : SdS g W u j) : SdS g W (tIfS tc t u) (sIf ic i j) := fun ι ρ S σ H D s e h =>
  hc ι ρ S σ H _ s e (h.then e fun x ι1 S1 H1 l s1 h3 => by
    cases x with
    | true => exact h1 ι1 ρ S1 σ H1 D s1 (e.mono l.le) h3
    | false => exact h2 ι1 ρ S1 σ H1 D s1 (e.mono l.le) h3)
/-- a raise where nothing is wished for -/
def tDead : TS := fun _ _ _ => False
theorem ps_dead {X : Cx} {st : Stmt} : PS X st tDead := ⟨fun _ _ _ _ _ _ h => h.elim⟩
theorem ss_dead {c : Str} : SdS g W0 tDead (sRaise c) := fun ι ρ S σ H D s e h => h _ _ _ (Ext.refl _ _) s e
theorem fr_put {f : Str} {d : Va} {v : V} {fs : List (Str × Va)} {vs : List (Str × V)} (h : VR g ι d v) (r : Paired (FR g ι) fs vs) : Paired (FR g ι) (putF f d fs) (L2.putF f v vs) := by
  induction r with
  | nil => exact .cons ⟨rfl, h⟩ .nil
  | @cons e kv fs vs q t ih =>
    obtain ⟨k, x⟩ := e
    obtain ⟨k2, w⟩ := kv
    obtain ⟨q1, q2⟩ := q
    dsimp only at q1 q2
    subst q1
    unfold putF L2.putF
    dsimp only
    by_cases hk : k2 = f
    · rw [if_pos hk, if_pos hk]
      exact .cons ⟨hk, h⟩ t
    · rw [if_neg hk, if_neg hk]
      exact .cons ⟨rfl, q2⟩ ih
theorem ss_fld {f : Str} (cl : Cl g) (na : ∀ c ∈ clsL, NoAttr g.K (g.γ c) f) (ho : SdE g W ta ia) (he : SdE g W te ie) : SdS g W (sFld g.K ta te f) (sFldSet ia f ie) := fun ι ρ S σ H D s e h =>
  he ι ρ S σ H _ s e (h.then e fun x ι1 S1 H1 l s1 h1 v vx => ho ι1 ρ S1 σ H1 _ s1 (e.mono l.le) (h1.then (e.mono l.le) fun y ι2 S2 H2 l2 s2 h2 w vy => by
    try dsimp only at h2
    split at h2
    · rename_i n
      split at h2
      · rename_i c fs eo
        split at h2
        · rename_i hc
          obtain ⟨p, rfl, ep, dx, vs, hp, rp⟩ := s2.ref eo vy
          refine ⟨p, _, dx, vs, rfl, hp, cl.cls c hc.1, na c hc.1, by rw [← Paired.len rp]; omega, ?_⟩
          exact h2 _ _ _ (Ext.put ep (fun ob u z => by rw [hp] at z; cases z)) (s2.put ep (fun ob u z => by rw [hp] at z; cases z) ⟨dx, _, upd_same, fr_put (vx.mono l2.le) rp⟩) (e.mono (l.trans l2).le)
        · exact h2.elim
      · exact h2.elim
    · exact h2.elim))
theorem ss_dset {td tk : TE} {id ik : IE} (hd : SdE g W td id) (hk : SdE g W tk ik) (he : SdE g W te ie) : SdS g W (sDPut td tk te) (sDSet id ik ie) := fun ι ρ S σ H D s e h =>
  he ι ρ S σ H _ s e (h.then e fun x ι1 S1 H1 l s1 h1 v vx => hd ι1 ρ S1 σ H1 _ s1 (e.mono l.le) (h1.then (e.mono l.le) fun y ι2 S2 H2 l2 s2 h2 w vy => hk ι2 ρ S2 σ H2 _ s2 (e.mono (l.trans l2).le) (h2.then (e.mono (l.trans l2).le) fun z ι3 S3 H3 l3 s3 h3 q vz => by
    try dsimp only at h3
    split at h3
    · rename_i n k
      split at h3
      · rename_i es ee
        split at h3
        · rename_i hl
          obtain ⟨p, rfl, ep, kvs, hp, rp⟩ := s3.ref ee (vy.mono l3.le)
          cases vz
          refine ⟨p, _, rfl, .inl ⟨kvs, .inl k, hp, rfl, Evl.sz_lt (by rw [← Paired.len rp]; exact hl), rfl⟩, ?_⟩
          exact h3 _ _ _ (Ext.put ep (fun ob u z => by rw [hp] at z; cases z)) (s3.put ep (fun ob u z => by rw [hp] at z; cases z) ⟨_, upd_same, kr_put k rp (vx.mono (l2.trans l3).le)⟩) (e.mono (l.trans (l2.trans l3)).le)
        · exact h3.elim
      · exact h3.elim
    · exact h3.elim)))
theorem ss_aug {a : Nat} (he : SdE g W te ie) : SdS g W (tAug a te (ipI fun x y => x + y)) (sAug a ie) := fun ι ρ S σ H D s e h => by
  unfold sAug at h
  split at h
  · rename_i x ex
    obtain ⟨v, h1, h2⟩ := e.at_ a _ ex
    cases h2
    refine ⟨_, h1, he ι ρ S σ H _ s e (h.then e fun y ι1 S1 H1 l s1 h3 w vy => ?_)⟩
    try dsimp only at h3
    split at h3
    · rename_i j
      cases vy
      exact ⟨x, j, rfl, rfl, h3 _ _ _ (Ext.refl _ _) s1 ((e.mono l.le).set a (x := .int (x + j)) rfl)⟩
    · exact h3.elim
  · exact h.elim
def rGetL (K : PySem.W.Frag) : V → V → Hp → VK → Prop := fun o i H Q => ∃ p xs k v, o = .ref p ∧ i = .int k ∧ SqL K H p xs ∧ atI xs k = some v ∧ Q v H
theorem setL_okO {o i x : Va} {vo vi v : V} {Q : Hp → Prop} {k : Unit → Sto → O} (s : Sim g ι S H) (ho : VR g ι o vo) (hi : VR g ι i vi) (hv : VR g ι x v) (h : PO g ι H W D ((setL o i x S).toO ρ k))
    (f : ∀ S' H', Ext ι H ι H' → Sim g ι S' H' → PO g ι H' W D (k () S') → Q H') : rSetL vo vi v H Q := by
  unfold setL at h
  split at h
  · rename_i n z
    split at h
    · rename_i xs ex
      split at h
      · rename_i j ej
        obtain ⟨a, rfl, ea, vs, hp, rp⟩ := s.ref ex ho
        cases hi
        refine ⟨a, vs, z, j, rfl, rfl, hp, by rw [← Paired.len rp]; exact ej, ?_⟩
        exact f _ _ (Ext.put ea (notFrz_lst hp)) (s.putL ea hp (Paired.set hv j rp)) (PO.le (Ext.put ea (notFrz_lst hp)) h)
      · exact h.elim
    · exact h.elim
  · exact h.elim
end
end IL

end
section
set_option Elab.async false
set_option linter.all false
set_option maxRecDepth 100000
set_option maxHeartbeats 2000000
namespace IL
open PySem L2
section
variable {g : Gm} {W : WH} {ι : List Addr} {S : Sto} {H : Hp} {ta tb te : TE} {ia ib ie : IE} {t u : TS} {i j : IS} {D : Ends} {ρ : Env} {σ : St}
open PyProof.Rows in
theorem get_LIST {X : Cx} : PGet X (rGetL X.K) := by
  intro pins s σ H o i ov iv Q I ro ri h
  obtain ⟨p, xs, k, z, rfl, rfl, hq, he, q⟩ := h
  cases ro
  obtain ⟨t, rfl⟩ := ri
  obtain ⟨its, r, pl, hz⟩ := I.list hq
  obtain ⟨j, h1, h2, h3, h4, h5⟩ := atI_get he
  obtain ⟨w, ew, rw'⟩ := r.get h2
  have hl := r.length
  have hn := line63
  have fin : EP X pins σ Q w s := ⟨z, H, I, rw', q⟩
  by_cases h0 : 0 ≤ k
  · have hj : k.toNat = j := by
      rw [seqIndex_of h0 h5] at h1
      exact Option.some.inj h1
    exact wpAny_getItem_list pl.isList h0 (by omega) (by rw [hj]; simpa using ew) fin
  · have hj : (k + (its.toArray.size : Int)).toNat = j := by
      rw [seqIndex_neg (by omega) h4] at h1
      rw [List.size_toArray, ← hl]
      exact Option.some.inj h1
    exact wpAny_getItem_list_neg pl.isList (by omega) (by rw [List.size_toArray] <;> omega) (by omega) (by rw [hj]; simpa using ew) fin
theorem ss_augS {to ti : TE} {io ii : IE} (ho : SdE g W to io) (hi : SdE g W ti ii) (he : SdE g W te ie) : SdS g W (tAugS to ti te (rGetL g.K) (ipI fun x y => x + y) rSetL) (sAugS io ii ie) := fun ι ρ S σ H D s e h =>
  ho ι ρ S σ H _ s e (h.then e fun x ι1 S1 H1 l s1 h1 v vx => hi ι1 ρ S1 σ H1 _ s1 (e.mono l.le) (h1.then (e.mono l.le) fun y ι2 S2 H2 l2 s2 h2 w vy => by
    have h2' : PO g ι2 H2 W D ((fIxL x y S2).toO ρ fun z S3 => (ie ρ S3).toO ρ fun w S4 => match z, w with
      | .int a, .int b => (setL x y (.int (a + b)) S4).toO ρ fun _ S5 => .nx ρ S5
      | _, _ => .no) := h2
    unfold fIxL at h2'
    split at h2'
    · rename_i xs k ex
      split at h2'
      · rename_i z ez
        obtain ⟨a, vs, rfl, hq, r⟩ := getL_ok s2 (vx.mono l2.le) ex
        obtain ⟨z', e1, e2⟩ := Paired.atI r ez
        cases vy
        refine ⟨a, vs, k, z', rfl, rfl, hq, e1, ?_⟩
        refine he ι2 ρ S2 σ H2 _ s2 (e.mono (l.trans l2).le) (h2'.then (e.mono (l.trans l2).le) fun q ι3 S3 H3 l3 s3 h3 u vu => ?_)
        try dsimp only at h3
        split at h3
        · rename_i p q
          cases (e2.mono l3.le); cases vu
          refine ⟨p, q, rfl, rfl, setL_okO s3 ((vx.mono l2.le).mono l3.le) (i := .int k) (vi := .int k) rfl (x := .int (p + q)) (v := .int (p + q)) rfl h3 fun S4 H4 l4 s4 h4 => ?_⟩
          exact h4 _ _ _ (Ext.refl _ _) s4 (e.mono (l.trans (l2.trans l3)).le)
        · exact h3.elim
      · exact h2'.elim
    · exact h2'.elim))
/-! ### for -/
theorem ss_for {wi : TI} {ii : II} {gt : TG} {tg : IG} (hw : SdI g W wi ii) (hg : SdG g W gt tg) (hb : SdS g W t i) : SdS g W (tFor wi gt t) (sFor ii tg i) := fun ι ρ S σ H D s e h =>
  hw ι ρ S σ H _ s e (h.then e fun I ι1 S1 H1 l s1 h1 J wk => by
    obtain ⟨G, Y, w, hG, hY⟩ := wk
    have chk : ∀ (its : List It1) (ρ' : Env) (S' : Sto) {ι' H'}, PO g ι' H' W D (forL I.chk tg i its ρ' S') → I.chk S' = true := fun its ρ' S' ι' H' h => by
      cases hc : I.chk S' with
      | true => rfl
      | false => cases its <;> (unfold forL at h; rw [hc, if_neg (by simp)] at h; exact h.elim)
    refine for_it w (fun k σ' H' => ∃ ι' ρ' S', Ext ι1 H1 ι' H' ∧ Sim g ι' S' H' ∧ ER g ι' ρ' σ' ∧ PO g ι' H' W D (forL I.chk tg i (I.items.drop k) ρ' S')) ?_ ?_ ?_ ?_
    · exact ⟨ι1, ρ, S1, Ext.refl _ _, s1, e.mono l.le, h1⟩
    · rintro k σ' H' _ ⟨ι', ρ', S', l', s', e', h'⟩
      exact hG ι' S' H' l'.le l'.fz s' (chk _ _ _ h')
    · rintro k x σ' H' H'' hk ⟨ι', ρ', S', l', s', e', h'⟩ hy
      have hc := chk _ _ _ h'
      obtain ⟨it, hit⟩ : ∃ it, I.items[k]? = some it := ⟨I.items[k], by simp [hk]⟩
      obtain ⟨s2, l2, r2⟩ := hY k it ι' S' H' x H'' hit l'.le l'.fz s' hc hy
      have ed : I.items.drop k = it :: I.items.drop (k + 1) := by
        rw [List.drop_eq_getElem_cons hk]
        congr 1
        exact (List.getElem?_eq_some_iff.mp hit).2
      rw [ed] at h'
      unfold forL at h'
      rw [hc, if_pos rfl] at h'
      have h2 : PO g ι' H'' W D (((tg it ρ' S').toO ρ' fun ρ1 S1 => i ρ1 S1).seq (forL I.chk tg i (I.items.drop (k + 1)))) := PO.le l2 h'
      refine hg ι' S' ρ' σ' H'' it x _ s2 e' r2 ?_
      cases ht : tg it ρ' S' with
      | ok ρ1 S1' =>
        rw [ht] at h2
        intro ι3 H3 l3 s3 σ3 e3
        refine hb ι3 ρ1 S1' σ3 H3 _ s3 e3 ?_
        have h3 : PO g ι3 H3 W D ((i ρ1 S1').seq (forL I.chk tg i (I.items.drop (k + 1)))) := PO.le l3 h2
        cases hi : i ρ1 S1' with
        | nx ρ2 S2 =>
          rw [hi] at h3
          exact fun ι4 σ4 H4 l4 s4 e4 => ⟨ι4, ρ2, S2, l'.trans (l2.trans (l3.trans l4)), s4, e4, PO.le l4 h3⟩
        | rt v S2 => rw [hi] at h3; exact h3
        | ex c ρ2 S2 => rw [hi] at h3; exact h3
        | no => rw [hi] at h3; exact h3.elim
      | ex c S1' => rw [ht] at h2; exact fun ι3 H3 l3 s3 => h2 ι3 σ' H3 l3 s3 (e'.mono l3.le)
      | no => rw [ht] at h2; exact h2.elim
    · rintro σ' H' ⟨ι', ρ', S', l', s', e', h'⟩
      have hc := chk _ _ _ h'
      rw [List.drop_length] at h'
      unfold forL at h'
      rw [hc, if_pos rfl] at h'
      exact h' _ _ _ (Ext.refl _ _) s' e')
/-! ### while -/
theorem ss_whileF {tc : TT} {ic : IT} (hc : SdT g W tc ic) (hb : SdS g W t i) (n : Nat) : SdS g W (tWhile tc t) (whF ic i n) := fun ι ρ S σ H D s e h => by
  refine ⟨fun m σ' H' => ∃ ι' ρ' S', Sim g ι' S' H' ∧ ER g ι' ρ' σ' ∧ PO g ι' H' W D (whF ic i m ρ' S'), ⟨n, ι, ρ, S, s, e, h⟩, ?_⟩
  rintro m σ' H' ⟨ι', ρ', S', s', e', h'⟩
  cases m with
  | zero => exact h'.elim
  | succ m =>
    unfold whF at h'
    refine hc ι' ρ' S' σ' H' _ s' e' (h'.then e' fun c ι1 S1 H1 l s1 h1 => ?_)
    cases c with
    | false => rw [if_neg (by simp)] at h1 ⊢; exact h1 _ _ _ (Ext.refl _ _) s1 (e'.mono l.le)
    | true =>
      rw [if_pos rfl] at h1 ⊢
      refine ⟨fun σ2 H2 => ∃ ι2 ρ2 S2, Sim g ι2 S2 H2 ∧ ER g ι2 ρ2 σ2 ∧ PO g ι2 H2 W D (whF ic i m ρ2 S2), fun σ2 H2 q => ⟨m, Nat.lt_succ_self m, q⟩, ?_⟩
      refine hb ι1 ρ' S1 σ' H1 _ s1 (e'.mono l.le) ?_
      cases hi : i ρ' S1 with
      | nx ρ2 S2 =>
        rw [hi] at h1
        exact fun ι4 σ4 H4 l4 s4 e4 => ⟨ι4, ρ2, S2, s4, e4, PO.le l4 h1⟩
      | rt v S2 => rw [hi] at h1; exact h1
      | ex c ρ2 S2 => rw [hi] at h1; exact h1
      | no => rw [hi] at h1; exact h1.elim
theorem ss_while {tc : TT} {ic : IT} (hc : SdT g W tc ic) (hb : SdS g W t i) : SdS g W (tWhile tc t) (sWhile ic i) := fun ι ρ S σ H D s e h => by
  unfold sWhile at h
  split at h
  · exact ss_whileF hc hb _ ι ρ S σ H D s e h
  · exact h.elim
/-! ### comprehensions -/
theorem wipe_set {σ : St} {y : Option V} {j : Nat} : ∀ {vs : List Nat}, j ∈ vs → wipe (σ.set j y) vs = wipe σ vs
  | [], h => by simp at h
  | v :: vs, h => by
    unfold wipe
    by_cases hj : j ∈ vs
    · rw [wipe_set hj]
    · have e : v = j := by
        rcases List.mem_cons.mp h with e | e
        · exact e.symm
        · exact (hj e).elim
      subst e
      have c : wipe (σ.set v y) vs = (wipe σ vs).set v y := by
        clear h
        induction vs with
        | nil => rfl
        | cons w vs ih =>
          unfold wipe
          have hw : v ≠ w := fun z => hj (by rw [z]; exact List.mem_cons_self)
          rw [ih (fun z => hj (List.mem_cons_of_mem _ z)), List.set_comm _ _ hw]
      rw [c, List.set_set]
theorem wipe_wipe {σ : St} {vs : List Nat} : ∀ l : List Nat, (∀ j ∈ l, j ∈ vs) → wipe (wipe σ l) vs = wipe σ vs
  | [], _ => rfl
  | a :: l, h => by
    show wipe ((wipe σ l).set a none) vs = _
    rw [wipe_set (h a List.mem_cons_self)]
    exact wipe_wipe l fun j hj => h j (List.mem_cons_of_mem _ hj)
/-- a target that stores into vs alone -/
def Wp (gt : TG) (vs : List Nat) : Prop := ∀ x σ H (Q : St → Hp → Prop), gt x σ H Q → gt x σ H fun σ2 H2 => wipe σ2 vs = wipe σ vs ∧ Q σ2 H2
theorem wp_name {j : Nat} {vs : List Nat} (h : j ∈ vs) : Wp (gName j) vs := fun x σ H Q q => ⟨wipe_set h, q⟩
def Wps (gt : TGs) (vs : List Nat) : Prop := ∀ xs σ H (Q : St → Hp → Prop), gt xs σ H Q → gt xs σ H fun σ2 H2 => wipe σ2 vs = wipe σ vs ∧ Q σ2 H2
theorem wps_nil {vs : List Nat} : Wps gNil vs := fun xs σ H Q ⟨e, q⟩ => ⟨e, rfl, q⟩
theorem wps_cons {j : Nat} {gs : TGs} {vs : List Nat} (h : j ∈ vs) (r : Wps gs vs) : Wps (gCons (gName j) gs) vs := fun xs σ H Q ⟨v, rr, e, q⟩ => by
  refine ⟨v, rr, e, ?_⟩
  have q' : gs rr (σ.set j (some v)) H Q := q
  have := r rr (σ.set j (some v)) H Q q'
  rw [wipe_set h] at this
  exact this
theorem wp_tup {K : PySem.W.Frag} {n : Nat} {gs : TGs} {vs : List Nat} (r : Wps gs vs) : Wp (gTup K n gs) vs := fun x σ H Q ⟨a, xs, e, h1, h2, q⟩ => ⟨a, xs, e, h1, h2, r xs σ H Q q⟩
theorem ER.wipe (e : ER g ι ρ σ) : ∀ vs : List Nat, ER g ι (wipeE ρ vs) (wipe σ vs)
  | [] => e
  | v :: vs => (ER.wipe e vs).unset v
theorem P.thenN {α β : Type} {ι0 : List Addr} {H0 : Hp} {W' : Str → Hp → Prop} {r : R α} {k : α → Sto → R β} {T' : α → List Addr → Hp → Prop} {y : β} {S9 : Sto} (h : r.bindN k = .ok y S9) (f : ∀ x ι' S' H', Ext ι0 H0 ι' H' → Sim g ι' S' H' → k x S' = .ok y S9 → T' x ι' H') : P g ι0 H0 W' T' r := by
  cases r with
  | ok x S' => exact fun ι2 H2 l s => f x ι2 S' H2 l s h
  | ex c S' => cases h
  | no => cases h
theorem lc_gen {J : It} {I : Its} {gt : TG} {tg : IG} {tt : TT} {it' : IT} {vs : List Nat} {A : Addr} {Qd : Hp → Prop} {ys : List Va} {S9 : Sto} (hg : SdG g W0 gt tg) (wp : Wp gt vs) (ht : SdT g W0 tt it') (he : SdE g W0 te ie)
    (wk : Wk g ι H J I) (hz : I.items.length ≤ 100000) (s : Sim g ι S H) (e : ER g ι ρ σ) (hA : H A = none) (h : lcL I.chk tg it' ie (wipeE ρ vs) I.items S = .ok ys S9)
    (fin : ∀ ι2 H2 acc, Le ι ι2 → (∀ a, a ≠ A → a ∉ ι → H a ≠ none → a ∉ ι2 ∧ H2 a = H a) → Frz H H2 → A ∉ ι2 → H2 A = some (.lst acc) → Sim g ι2 S9 H2 → VRs g ι2 ys acc → Qd H2) :
    ∃ W : Nat → Nat → Hp → Prop, (∃ m, W 0 m (upd H A (.lst []))) ∧ ∀ i m H, W i m H →
      (J.stop i H ∧ Qd H) ∨ (J.go i H ∧ ∃ Nx : Hp → Prop, (∀ H', Nx H' → ∃ m', m' < m ∧ W (i + 1) m' H') ∧ ∀ x H', J.yld i H x H' → gt x (wipe σ vs) H' fun σ2 H2 => wipe σ2 vs = wipe σ vs ∧ tt σ2 H2 fun b H3 =>
        if b = true then te σ2 H3 fun y H4 => ∃ acc, H4 A = some (.lst acc) ∧ acc.length < sizeLine ∧ Nx (upd H4 A (.lst (acc ++ [y]))) else Nx H3) := by
  obtain ⟨G, Y, w, hG, hY⟩ := wk
  have chk : ∀ (its : List It1) (S' : Sto) (zs : List Va), lcL I.chk tg it' ie (wipeE ρ vs) its S' = .ok zs S9 → I.chk S' = true := fun its S' zs h => by
    cases hc : I.chk S' with
    | true => rfl
    | false => cases its <;> (unfold lcL at h; rw [hc, if_neg (by simp)] at h; cases h)
  refine lc_it w (fun k H' => ∃ ι' S' acc av rest, Le ι ι' ∧ (∀ a, a ≠ A → a ∉ ι → H a ≠ none → a ∉ ι' ∧ H' a = H a) ∧ Frz H H' ∧ A ∉ ι' ∧ H' A = some (.lst av) ∧ Sim g ι' S' H' ∧ VRs g ι' acc av ∧ acc.length ≤ k ∧ ys = acc ++ rest ∧ lcL I.chk tg it' ie (wipeE ρ vs) (I.items.drop k) S' = .ok rest S9) ?_ ?_ ?_ ?_
  · exact ⟨ι, S, [], [], ys, Le.refl _, fun a h1 h2 h3 => ⟨h2, upd_ne h1⟩, Frz.new hA, s.fresh hA, upd_same, s.more hA, .nil, Nat.le_refl _, rfl, h⟩
  · rintro k H' _ ⟨ι', S', acc, av, rest, l', fr', fz', na', ha', s', r', hl', e', h'⟩
    exact hG ι' S' H' l' fz' s' (chk _ _ _ h')
  · rintro k x H' H'' hk ⟨ι', S', acc, av, rest, l', fr', fz', na', ha', s', r', hl', e', h'⟩ hy
    have hc := chk _ _ _ h'
    obtain ⟨it, hit⟩ : ∃ it, I.items[k]? = some it := ⟨I.items[k], by simp [hk]⟩
    obtain ⟨s2, l2, r2⟩ := hY k it ι' S' H' x H'' hit l' fz' s' hc hy
    have ed : I.items.drop k = it :: I.items.drop (k + 1) := by
      rw [List.drop_eq_getElem_cons hk]
      congr 1
      exact (List.getElem?_eq_some_iff.mp hit).2
    rw [ed] at h'
    unfold lcL at h'
    rw [hc, if_pos rfl] at h'
    have ew : ER g ι' (wipeE ρ vs) (wipe σ vs) := (e.mono l').wipe vs
    have key := wp x (wipe σ vs) H'' _ (hg ι' S' (wipeE ρ vs) (wipe σ vs) H'' it x (fun σ2 H2 => tt σ2 H2 fun b H3 =>
        if b = true then te σ2 H3 fun y H4 => ∃ acc, H4 A = some (.lst acc) ∧ acc.length < sizeLine ∧ (∃ ι' S' acc' av rest, Le ι ι' ∧ (∀ a, a ≠ A → a ∉ ι → H a ≠ none → a ∉ ι' ∧ (upd H4 A (.lst (acc ++ [y]))) a = H a) ∧ Frz H (upd H4 A (.lst (acc ++ [y]))) ∧ A ∉ ι' ∧ (upd H4 A (.lst (acc ++ [y]))) A = some (.lst av) ∧ Sim g ι' S' (upd H4 A (.lst (acc ++ [y]))) ∧ VRs g ι' acc' av ∧ acc'.length ≤ k + 1 ∧ ys = acc' ++ rest ∧ lcL I.chk tg it' ie (wipeE ρ vs) (I.items.drop (k + 1)) S' = .ok rest S9)
        else (∃ ι' S' acc av rest, Le ι ι' ∧ (∀ a, a ≠ A → a ∉ ι → H a ≠ none → a ∉ ι' ∧ H3 a = H a) ∧ Frz H H3 ∧ A ∉ ι' ∧ H3 A = some (.lst av) ∧ Sim g ι' S' H3 ∧ VRs g ι' acc av ∧ acc.length ≤ k + 1 ∧ ys = acc ++ rest ∧ lcL I.chk tg it' ie (wipeE ρ vs) (I.items.drop (k + 1)) S' = .ok rest S9)) s2 ew r2 (P.thenN h' fun ρ1 ι3 S3 H3 l3 s3 h3 σ1 e1 => ?_))
    · rw [wipe_wipe vs fun _ h => h] at key
      exact key
    · refine ht ι3 ρ1 S3 σ1 H3 _ s3 e1 (P.thenN h3 fun b ι4 S4 H4 l4 s4 h4 => ?_)
      have l24 : Ext ι' H' ι4 H4 := l2.trans (l3.trans l4)
      obtain ⟨na4, ha4⟩ := l24.fr A na' (by rw [ha']; intro z; cases z)
      rw [ha'] at ha4
      have fr4 : ∀ a, a ≠ A → a ∉ ι → H a ≠ none → a ∉ ι4 ∧ H4 a = H a := fun a h1 h2 h3 => by
        obtain ⟨p, q⟩ := fr' a h1 h2 h3
        obtain ⟨p', q'⟩ := l24.fr a p (by rw [q]; exact h3)
        exact ⟨p', q'.trans q⟩
      cases b with
      | false =>
        rw [if_neg (by simp)] at h4 ⊢
        exact ⟨ι4, S4, acc, av, rest, l'.trans l24.le, fr4, fz'.trans l24.fz, na4, ha4, s4, r'.mono l24.le, by omega, e', h4⟩
      | true =>
        rw [if_pos rfl] at h4 ⊢
        refine he ι4 ρ1 S4 σ1 H4 _ s4 (e1.mono l4.le) (P.thenN h4 fun y ι5 S5 H5 l5 s5 h5 v vy => ?_)
        have l25 : Ext ι' H' ι5 H5 := l24.trans l5
        obtain ⟨na5, ha5⟩ := l25.fr A na' (by rw [ha']; intro z; cases z)
        rw [ha'] at ha5
        refine ⟨av, ha5, Evl.sz_lt (by rw [← Paired.len r']; omega), ?_⟩
        have hnf := notFrz_lst ha5
        cases hr : lcL I.chk tg it' ie (wipeE ρ vs) (I.items.drop (k + 1)) S5 with
        | ok zs S6 =>
          rw [hr] at h5
          cases h5
          refine ⟨ι5, S5, acc ++ [y], av ++ [v], zs, l'.trans l25.le, fun a h1 h2 h3 => ?_, (fz'.trans l25.fz).trans (Frz.upd hnf), na5, upd_same, s5.other na5 hnf, Paired.append (r'.mono l25.le) (.cons vy .nil), by simp; omega, by rw [e']; simp, hr⟩
          obtain ⟨p, q⟩ := fr4 a h1 h2 h3
          obtain ⟨p', q'⟩ := l5.fr a p (by rw [q]; exact h3)
          exact ⟨p', by rw [upd_ne h1]; exact q'.trans q⟩
        | ex c S6 => rw [hr] at h5; cases h5
        | no => rw [hr] at h5; cases h5
  · rintro H' ⟨ι', S', acc, av, rest, l', fr', fz', na', ha', s', r', hl', e', h'⟩
    have hc := chk _ _ _ h'
    rw [List.drop_length] at h'
    unfold lcL at h'
    rw [hc, if_pos rfl] at h'
    cases h'
    rw [List.append_nil] at e'
    subst e'
    exact fin ι' H' av l' fr' fz' na' ha' s' r'
theorem upd_self {A : Addr} {o : HO} (h : H A = some o) : upd H A o = H := by
  funext b
  by_cases e : b = A
  · subst e; rw [upd_same, h]
  · rw [upd_ne e]
theorem sd_lc {wi : TI} {ii : II} {gt : TG} {tg : IG} {tt : TT} {it : IT} {vs : List Nat} (hw : SdI g W wi ii) (hg : SdG g W0 gt tg) (wp : Wp gt vs) (ht : SdT g W0 tt it) (he : SdE g W0 te ie) : SdE g W (tLc wi gt tt te vs) (iLc ii tg it ie vs) := fun ι ρ S σ H Q s e h =>
  hw ι ρ S σ H _ s e (h.then fun I ι1 S1 H1 l s1 h1 J wk A hA => by
    try dsimp only at h1
    split at h1
    · rename_i hz
      cases hl : lcL I.chk tg it ie (wipeE ρ vs) I.items S1 with
      | ok ys S9 =>
        rw [hl] at h1
        refine lc_gen hg wp ht he wk hz s1 (e.mono l.le) hA hl fun ι2 H2 acc l2 fr fz na ha s2 r => ?_
        refine h1 (ι2 ++ [A]) H2 ⟨l2.trans (Le.snoc _ _), fun a h2 h3 => ?_, fz⟩ ?_ _ s2.newRef
        · have hap : a ≠ A := fun z => h3 (z ▸ hA)
          obtain ⟨x, y⟩ := fr a hap h2 h3
          exact ⟨fun z => (List.mem_append.mp z).elim x fun z => hap (List.mem_singleton.mp z), y⟩
        · have := s2.join (o := .lst ys) (u := .lst acc) na (notFrz_lst ha) ⟨acc, upd_same, r.mono (Le.snoc _ _)⟩
          rwa [upd_self ha] at this
      | ex c S9 => rw [hl] at h1; exact h1.elim
      | no => rw [hl] at h1; exact h1.elim
    · exact h1.elim)
end
end IL

end
section
set_option Elab.async false
set_option linter.all false
set_option maxRecDepth 100000
set_option maxHeartbeats 2000000
namespace IL
open PySem L2
section
variable {g : Gm} {W : WH} {ι : List Addr} {S : Sto} {H : Hp} {ta tb te : TE} {ia ib ie : IE} {t u : TS} {i j : IS} {D : Ends} {ρ : Env} {σ : St}
/-! ### a comprehension over a dict's keys -/
theorem Sim.putS (s : Sim g ι S H) {n : Nat} {a : Addr} {o : Ob} {u : HO} (e : ι[n]? = some a) (h : ObR g ι (upd H a u) a o) (sc : ∀ H', Frz (upd H a u) H' → SqL g.K H' g.a0 (g.ns.map V.int)) : Sim g ι (S.set n o) (upd H a u) := by
  refine ⟨s.nd, by simp [s.len], fun m o' b e1 e2 => ?_, sc⟩
  by_cases hm : n = m
  · subst hm
    rw [e] at e2; cases e2
    have hn : n < S.length := by rw [← s.len]; exact (List.getElem?_eq_some_iff.mp e).1
    rw [List.getElem?_set_self hn] at e1
    cases e1
    exact h
  · rw [List.getElem?_set_ne hm] at e1
    refine (s.ob m o' b e1 e2).heap (upd_ne fun z => hm ?_)
    subst z
    obtain ⟨h1, e1'⟩ := List.getElem?_eq_some_iff.mp e
    obtain ⟨h2, e2'⟩ := List.getElem?_eq_some_iff.mp e2
    exact (List.getElem_inj s.nd).mp (e1'.trans e2'.symm)
theorem sd_lcK {d : Nat} {gt : TG} {tg : IG} {tt : TT} {it : IT} {vs : List Nat} (hg : SdG g W0 gt tg) (wp : Wp gt vs) (ht : SdT g W0 tt it) (he : SdE g W0 te ie) : SdE g W (tLockE (tLc (iKeys (tVar d)) gt tt te vs)) (iLcK d tg it ie vs) := fun ι ρ S σ H Q s e h => by
  unfold iLcK at h
  split at h
  · rename_i n en
    split at h
    · rename_i es ee
      split at h
      · rename_i hz
        obtain ⟨v, ev, vv⟩ := e.at_ d _ en
        obtain ⟨a, rfl, ea, kvs, ha, rk⟩ := s.ref ee vv
        have hnf : ∀ ob u, H a ≠ some (.frz ob u) := fun ob u z => by rw [ha] at z; cases z
        refine ⟨a, .dK kvs, ha, trivial, fun od => ⟨.ref a, ev, a, od, rfl, .inl ⟨kvs, upd_same, fun A hA => ?_⟩⟩⟩
        have s1 : Sim g ι (S.set n .hid) (upd H a (.frz od (.dK kvs))) := s.put ea hnf (by show upd H a _ a ≠ none; rw [upd_same]; intro z; cases z)
        cases hl : lcL (fun _ => true) tg it ie (wipeE ρ vs) (es.map fun e => It1.one (.int e.1)) (S.set n .hid) with
        | ok ys S9 =>
          rw [hl] at h
          have wk : Wk g ι (upd H a (.frz od (.dK kvs))) (Itk a od kvs) ⟨es.map fun e => It1.one (.int e.1), fun _ => true⟩ := by
            have w : Walk (Itk a od kvs) (es.map fun e => It1.one (.int e.1)).length (fun H => H a = some (.frz od (.dK kvs))) (fun i H x H' => H' = H ∧ ∃ k v, kvs[i]? = some (k, v) ∧ x = kV k) := by
              rw [List.length_map, Paired.len rk]; exact walk_keys
            refine ⟨_, _, w, fun ι' S' H' l' f' s' hc => f' a _ _ upd_same, fun k q ι' S' H2 y H3 e1 l' f' s' hc hy => ?_⟩
            obtain ⟨z1, k', v', z2, z3⟩ := hy
            subst z1
            have e1' : (es.map fun e => It1.one (.int e.1))[k]? = some q := e1
            rw [List.getElem?_map] at e1'
            cases e2 : es[k]? with
            | none => rw [e2] at e1'; cases e1'
            | some kv =>
              rw [e2] at e1'
              have e3 := (Option.some.inj e1').symm
              subst e3
              obtain ⟨u, e4, e5⟩ := Paired.get rk e2
              rw [z2] at e4; cases e4
              refine ⟨s', Ext.refl _ _, ?_⟩
              show y = V.int kv.1
              rw [z3, show k' = Sum.inl kv.1 from e5.1]; rfl
          have hz' : (⟨es.map fun e => It1.one (.int e.1), fun _ => true⟩ : Its).items.length ≤ 100000 := by
            show (es.map fun e => It1.one (.int e.1)).length ≤ 100000
            rw [List.length_map]; exact hz
          refine lc_gen hg wp ht he wk hz' s1 e hA hl fun ι2 H2 acc l2 fr fz na hA2 s2 r => ?_
          have ha2 : H2 a = some (.frz od (.dK kvs)) := fz a _ _ upd_same
          have ea2 := l2 n a ea
          have hAa : A ≠ a := fun z => by rw [z, upd_same] at hA; cases hA
          have fzH : Frz H (upd H2 a (.dK kvs)) := fun b ob u hb => by
            have hba : b ≠ a := fun z => by rw [z, ha] at hb; cases hb
            rw [upd_ne hba]
            exact fz b ob u (by rw [upd_ne hba]; exact hb)
          refine ⟨ha2, h (ι2 ++ [A]) (upd H2 a (.dK kvs)) ⟨l2.trans (Le.snoc _ _), fun b h2 h3 => ?_, fzH⟩ ?_ _ s2.newRef⟩
          · have hba : b ≠ a := fun z => h2 (z ▸ List.mem_of_getElem? ea)
            have hbA : b ≠ A := fun z => by
              subst z
              rw [upd_ne hba] at hA
              exact h3 hA
            obtain ⟨x, y⟩ := fr b hbA h2 (by rw [upd_ne hba]; exact h3)
            refine ⟨fun z => (List.mem_append.mp z).elim x fun z => hbA (List.mem_singleton.mp z), ?_⟩
            rw [upd_ne hba, y, upd_ne hba]
          · have rk2 : Paired (KR g ι2) es kvs := Paired.imp (fun _ _ q => ⟨q.1, q.2.mono l2⟩) rk
            have s3 : Sim g ι2 (S9.set n (.dic es)) (upd H2 a (.dK kvs)) := s2.putS ea2 ⟨kvs, upd_same, rk2⟩ fun H' f => s.sc H' (fzH.trans f)
            have hA3 : upd H2 a (.dK kvs) A = some (.lst acc) := by rw [upd_ne hAa]; exact hA2
            have := s3.join (o := .lst ys) (u := .lst acc) na (notFrz_lst hA3) ⟨acc, upd_same, r.mono (Le.snoc _ _)⟩
            rwa [upd_self hA3] at this
        | ex c S9 => rw [hl] at h; exact h.elim
        | no => rw [hl] at h; exact h.elim
      · exact h.elim
    · exact h.elim
  · exact h.elim
theorem ss_lockLc {tl : TE} {il : IE} {q : Nat} (h : SdE g W (tLockE tl) il) : SdS g W (tLock (tAsg tl (gName q))) (sAsg il (tgName q)) := fun ι ρ S σ H D s e hp => ss_asg h sg_name ι ρ S σ H D s e hp
/-! ### defs: the promise by the plain function; no exception leaves -/
def iSp (g : Gm) (f : Fn) : Sp := fun vs H Q _ => ∃ ι S xs, Sim g ι S H ∧ VRs g ι xs vs ∧ P g ι H (fun _ _ => False) (fun x ι' H' => ∀ v, VR g ι' x v → Q v H') (f xs S)
theorem sd_call {f : Fn} {E : XK} {tA : TA} {iA : IA} (ha : SdA g W0 tA iA) : SdE g W0 (tCall (iSp g f) [] E tA) (iCall f iA) := fun ι ρ S σ H Q s e h =>
  ha ι ρ S σ H _ s e (h.then fun xs ι1 S1 H1 l s1 h1 vs r => ⟨ι1, S1, xs, s1, by rw [List.append_nil]; exact r, h1⟩)
theorem sd_make {c : Str} {C : Addr} {f : Fn} {E : XK} {tA : TA} {iA : IA} (hC : g.γ c = C) (ha : SdA g W0 tA iA) : SdE g W0 (tMake C (iSp g f) [] E tA) (iMake c f iA) := fun ι ρ S σ H Q s e h =>
  ha ι ρ S σ H _ s e (h.then fun xs ι1 S1 H1 l s1 h1 vs r x dx hx hdx hne => by
    subst hC
    have hx' : upd H1 dx (.own x) x = none := by rw [upd_ne (Ne.symm hne)]; exact hx
    have s2 : Sim g ι1 S1 (upd H1 dx (.own x)) := s1.more hdx
    have s3 : Sim g (ι1 ++ [x]) (S1 ++ [.obj c []]) (upd (upd H1 dx (.own x)) x (.ins (g.γ c) dx [])) := s2.alloc hx' ⟨dx, [], upd_same, .nil⟩
    have e0 : Ext ι1 H1 (ι1 ++ [x]) (upd (upd H1 dx (.own x)) x (.ins (g.γ c) dx [])) := (Ext.new hdx).trans (Ext.snoc hx')
    have nr : VR g (ι1 ++ [x]) (.ref S1.length) (.ref x) := s1.newRef
    refine ⟨ι1 ++ [x], _, .ref S1.length :: xs, s3, .cons nr (by rw [List.append_nil]; exact r.mono e0.le), ?_⟩
    refine (h1.thenB e0 fun v ι' S' H' l' s' h' u vu => ?_)
    cases v with
    | non => exact ⟨vu, h' ι' H' (e0.trans l') s' _ (nr.mono l'.le)⟩
    | _ => exact h'.elim)
theorem sd_meth {c : Str} {C : Addr} {m : Str} {f : Fn} {E : XK} {tA : TA} {iA : IA} (hC : g.γ c = C) (ho : SdE g W0 ta ia) (ha : SdA g W0 tA iA) : SdE g W0 (tMeth C m (iSp g f) [] E ta tA) (iMeth c m f ia iA) := fun ι ρ S σ H Q s e h =>
  ho ι ρ S σ H _ s e (h.then fun x ι1 S1 H1 l s1 h1 v vx => by
    subst hC
    try dsimp only at h1
    split at h1
    · rename_i c' fs eo
      split at h1
      · rename_i hc
        obtain ⟨a, dx, vs, rfl, hp, r⟩ := getO_ok s1 vx eo
        obtain ⟨hc1, hc2⟩ := hc
        subst hc1
        exact ⟨a, dx, vs, rfl, hp, fr_lookupN r hc2, ha ι1 ρ S1 σ H1 _ s1 (e.mono l.le) (h1.then fun xs ι2 S2 H2 l2 s2 h2 ws r2 => ⟨ι2, S2, x :: xs, s2, .cons (vx.mono l2.le) (by rw [List.append_nil]; exact r2), h2⟩)⟩
      · exact h1.elim
    · exact h1.elim)
theorem PE.or2 {X : Cx} {e : Expr} {t u : TE} (h : PE X e t) (h' : PE X e u) : PE X e (fun σ H Q => t σ H Q ∨ u σ H Q) := ⟨fun pins s σ H Q I q => q.elim (h.run pins s σ H Q I) (h'.run pins s σ H Q I)⟩
theorem sd_is {c : Str} {io : IE} {t u : TE} {i j : IE} (h1 : SdE g W t i) (h2 : SdE g W u j) : SdE g W (fun σ H Q => t σ H Q ∨ u σ H Q) (iIs c io i j) := fun ι ρ S σ H Q s e h => by
  unfold iIs at h
  split at h
  · split at h
    · split at h
      · exact .inl (h1 ι ρ S σ H Q s e h)
      · exact .inr (h2 ι ρ S σ H Q s e h)
    · exact h.elim
  · exact h.elim
theorem er_start {N : List Str} {xs : List Va} {vs : List V} (r : VRs g ι xs vs) : ER g ι (xs.map some ++ List.replicate (N.length - xs.length) none) (L2.start N vs) := by
  refine ⟨?_, fun k x e => ?_⟩
  · unfold L2.start
    simp only [List.length_append, List.length_map, List.length_replicate, Paired.len r]
  · unfold L2.start
    by_cases hk : k < xs.length
    · rw [List.getElem?_append_left (by rw [List.length_map]; exact hk), List.getElem?_map] at e
      cases ex : xs[k]? with
      | none => rw [ex] at e; cases e
      | some y =>
        rw [ex] at e
        have e' : y = x := by simpa using e
        subst e'
        obtain ⟨v, h1, h2⟩ := Paired.get r ex
        refine ⟨v, ?_, h2⟩
        rw [List.getElem?_append_left (by rw [List.length_map, ← Paired.len r]; exact hk), List.getElem?_map, h1]
        rfl
    · rw [List.getElem?_append_right (by rw [List.length_map]; omega)] at e
      rw [List.getElem?_replicate] at e
      split at e <;> cases e
theorem P_len {p n : Nat} {body : IS} {T : Va → List Addr → Hp → Prop} {W' : Str → Hp → Prop} {xs : List Va} (h : P g ι H W' T (mkFn p n body xs S)) : xs.length = p := by
  unfold mkFn at h
  split at h
  · assumption
  · exact h.elim
theorem iSp_len {p n : Nat} {body : IS} {ps : List Str} (hp : ps.length = p) : ∀ vs H Q E, iSp g (mkFn p n body) vs H Q E → vs.length = ps.length := by
  rintro vs H Q E ⟨ι, S, xs, s, r, h⟩
  rw [hp, ← Paired.len r]
  exact P_len h
/-- a def's body keeps the promise -/
theorem body {N : List Str} {p n : Nat} {b : IS} {t : TS} {vs : List V} {Q : VK} {E : XK} (h : iSp g (mkFn p n b) vs H Q E) (hn : N.length = n) (hb : SdS g W0 t b) : t { nx := fun _ H' => Q .non H', rt := Q } (L2.start N vs) H := by
  obtain ⟨ι, S, xs, s, r, h⟩ := h
  subst hn
  refine hb ι _ S _ H _ s (er_start r) ?_
  unfold mkFn at h
  rw [if_pos (P_len h)] at h
  cases hr : b (xs.map some ++ List.replicate (N.length - xs.length) none) S with
  | nx ρ' S' => rw [hr] at h; exact fun ι' σ' H' l s' e' => h ι' H' l s' _ rfl
  | rt v S' => rw [hr] at h; exact fun ι' v H' l s' r' => h ι' H' l s' _ r'
  | ex c ρ' S' => rw [hr] at h; exact fun ι' σ' H' l s' e' => h ι' H' l s'
  | no => rw [hr] at h; exact h.elim
end
/-- a def that may be called by its name -/
structure Cal (P : Program) (w : World) (K : PySem.W.Frag) (mg : Str → Option Value) (base : Heap) (CX : CXT) (k : Nat) (x : Str) (ps : List Str) (sp : Sp) : Prop where
  ex : ∃ f fd, FnOk P w K mg base CX k f fd ps sp ∧ mg x = some (.ref f) ∧ PySem.W.keepIn K (.ref f) = true ∧ Binds K fd ps []
theorem pe_cal {X : Cx} {k : Nat} {x : Str} {ps : List Str} {sp : Sp} {p pos : Pos} {e : Expr} {es : List Expr} {t : TA} (c : Cal X.prog X.w X.K X.mg X.base CX0 k x ps sp) (hr : Room k X.A) (hg : Gl X x) (ha : PA X (e :: es) t)
    (hdb : (x == ("__debug__" : Str)) = false := by decide) (he : starEach (e :: es) X.env = (false, eval e X.env) :: starEach es X.env := by rfl) (hpl : (backTo pos (starEach es X.env)).any (·.1) = false := by rfl) :
    PE X (.Call (.Name x p) (e :: es) [] pos) (tCall sp [] E0 t) := by
  obtain ⟨f, fd, F, hm, hk, hb⟩ := c.ex
  exact pe_call F hr hg hm hk hb .nil pass0 ha hdb he hpl
theorem pe_cal0 {X : Cx} {k : Nat} {x : Str} {ps : List Str} {sp : Sp} {p pos : Pos} (c : Cal X.prog X.w X.K X.mg X.base CX0 k x ps sp) (hr : Room k X.A) (hg : Gl X x)
    (hdb : (x == ("__debug__" : Str)) = false := by decide) : PE X (.Call (.Name x p) [] [] pos) (tCall sp [] E0 tNil) := by
  obtain ⟨f, fd, F, hm, hk, hb⟩ := c.ex
  exact pe_call0 F hr hg hm hk hb .nil pass0 hdb
/-- a class that may be made -/
structure Mkc (P : Program) (w : World) (K : PySem.W.Frag) (mg : Str → Option Value) (base : Heap) (k : Nat) (x : Str) (C : Addr) (ps : List Str) (sp : Sp) : Prop where
  ex : ∃ f fd, FnOk P w K mg base CX0 k f fd ps sp ∧ Mk K C f ∧ mg x = some (.ref C) ∧ Binds K fd ps []
theorem pe_mkc {X : Cx} {k : Nat} {x : Str} {C : Addr} {ps : List Str} {sp : Sp} {p pos : Pos} {e : Expr} {es : List Expr} {t : TA} (c : Mkc X.prog X.w X.K X.mg X.base k x C ps sp) (hr : Room (k + 1) X.A) (hg : Gl X x) (ha : PA X (e :: es) t)
    (hdb : (x == ("__debug__" : Str)) = false := by decide) (he : starEach (e :: es) X.env = (false, eval e X.env) :: starEach es X.env := by rfl) (hpl : (backTo pos (starEach es X.env)).any (·.1) = false := by rfl) :
    PE X (.Call (.Name x p) (e :: es) [] pos) (tMake C sp [] E0 t) := by
  obtain ⟨f, fd, F, M, hm, hb⟩ := c.ex
  exact pe_make M F hr hg hm hb .nil pass0 ha hdb he hpl
/-- a method of a class -/
structure Mcal (P : Program) (w : World) (K : PySem.W.Frag) (mg : Str → Option Value) (base : Heap) (k : Nat) (C : Addr) (m : Str) (ps : List Str) (sp : Sp) : Prop where
  ex : ∃ f fd, FnOk P w K mg base CX0 k f fd ps sp ∧ Cls K C ∧ Meth K C m f ∧ Binds K fd ps []
theorem pe_mcal {X : Cx} {k : Nat} {C : Addr} {m : Str} {ps : List Str} {sp : Sp} {o : Expr} {ta : TE} {apos pos : Pos} {e : Expr} {es : List Expr} {t : TA} {pl : Sem Bool} (c : Mcal X.prog X.w X.K X.mg X.base k C m ps sp) (hr : Room k X.A) (he : PE X o ta) (ha : PA X (e :: es) t)
    (hst : starEach (e :: es) X.env = (false, eval e X.env) :: starEach es X.env := by rfl) (hpl : (backTo pos (starEach es X.env)).any (·.1) = false := by rfl)
    (ht : eval (.Call (.Attribute o m apos) (e :: es) [] pos) X.env = (do
      let ov ← eval o X.env
      standAt apos.atName
      let (f, first) ← holding [ov] (getMethod ov m pl)
      callWith pos f first (backTo pos (starEach (e :: es) X.env)) (backToKw pos (keywordEach [] X.env))) := by rfl) :
    PE X (.Call (.Attribute o m apos) (e :: es) [] pos) (tMeth C m sp [] E0 ta t) := by
  obtain ⟨f, fd, F, cl, M, hb⟩ := c.ex
  exact pe_meth he cl M F hr hb .nil pass0 ha hst hpl ht
/-- the built-ins' names are nobody else's -/
structure Bt (mg : Str → Option Value) : Prop where
  len : mg "len" = none
  isinstance : mg "isinstance" = none
  int : mg "int" = none
  bool : mg "bool" = none
  list : mg "list" = none
  tuple : mg "tuple" = none
  all : mg "all" = none
  any : mg "any" = none
  sum : mg "sum" = none
  max : mg "max" = none
  min : mg "min" = none
  sorted : mg "sorted" = none
  set : mg "set" = none
  range : mg "range" = none
  enumerate : mg "enumerate" = none
  zip : mg "zip" = none
  abs : mg "abs" = none
  str : mg "str" = none
end IL

end
section
set_option linter.all false
set_option maxRecDepth 100000
namespace IL
open PySem L2
/-! ### the end of every law -/
def gam (K : PySem.W.Frag) (x : Str) : Addr := match PySem.W.nsIn K mainGlobals x with
  | some (some (.ref a)) => a
  | _ => 0
theorem gam_of {K : PySem.W.Frag} {x : Str} {a : Addr} (h : PySem.W.nsIn K mainGlobals x = some (some (.ref a))) : gam K x = a := by unfold gam; rw [h]
/-- the promise of a law's def -/
def lawSp (f : Fn) (K : PySem.W.Frag) : Sp := fun vs H Q E => ∃ (a0 : Addr) (ns : List Int), iSp ⟨gam K, K, a0, ns⟩ f vs H Q E
theorem fnok_ex {P : Program} {w : World} {K : PySem.W.Frag} {mg : Str → Option Value} {base : Heap} {CX : CXT} {k : Nat} {f : Addr} {fd : FuncData} {ps : List Str} {i : Fn}
    (h : ∀ (a0 : Addr) (ns : List Int), FnOk P w K mg base CX k f fd ps (iSp ⟨gam K, K, a0, ns⟩ i)) : FnOk P w K mg base CX k f fd ps (lawSp i K) :=
  ⟨fun vs H Q E ⟨a0, ns, q⟩ => (h a0 ns).len vs H Q E q, fun A outer s H args us vs Q E hr he hb hv ⟨a0, ns, q⟩ => (h a0 ns).run A outer s H args us vs Q E hr he hb hv q⟩
theorem sim_start {K : PySem.W.Frag} {H : Hp} {a : Addr} {ns : List Int} (hO : Only H) (hS : SqL K H a (ns.map V.int)) : Sim ⟨gam K, K, a, ns⟩ [] [] H := by
  refine ⟨List.nodup_nil, rfl, fun n o a e => by simp at e, fun H' f => ?_⟩
  rcases hS with r | r
  · rcases r with r | ⟨o, r⟩
    · rcases hO a with z | ⟨o, xs, z⟩
      · rw [z] at r; cases r
      · rw [z] at r; cases r
    · exact .inl (.inr ⟨o, f a o _ r⟩)
  · exact .inr r
theorem law_sp {f : Fn} {K : PySem.W.Frag} {H : Hp} {a : Addr} {ns : List Int} (ht : ∃ S', f [.scr ns] [] = .ok (.bl true) S') (hO : Only H) (hS : SqL K H a (ns.map V.int)) : lawSp f K [.ref a] H (fun v _ => v = .bl true) fun _ _ _ => False := by
  obtain ⟨S', h⟩ := ht
  refine ⟨a, ns, [], [], [.scr ns], sim_start hO hS, .cons ⟨rfl, rfl⟩ .nil, ?_⟩
  rw [h]
  exact fun ι' H' _ _ v r => r
end IL

end
section
set_option linter.all false
set_option maxRecDepth 100000
namespace IL
open PySem L2
/-- 0 thing, 1 least -/
noncomputable def i_is_number : Fn := mkFn 2 2 (sRet (iAndV (iCB fIsi (iCons (iVar 0) (iCons (iC (.ty "int")) iNil))) (iAndV (iNotV (iCB fIsi (iCons (iVar 0) (iCons (iC (.ty "bool")) iNil)))) (iOp fGe (iVar 0) (iVar 1)))))

/-- 0 thing, 1 people, 2 one -/
noncomputable def i_is_task : Fn := mkFn 2 3 (sSeq (sIf (iOr (iNot (iB (iCB fIsi (iCons (iVar 0) (iCons (iC (.ty "tuple")) iNil))))) (iOr (iB (iOp fNe (iCB fLen (iCons (iVar 0) iNil)) (iC (.int 2)))) (iNot (iB (iCB fAll (iCons (iLc (itTup (iVar 0)) (tgName 2) iYes (iCall i_is_number (iCons (iVar 2) (iCons (iC (.int 0)) iNil))) [2]) iNil)))))) (sRet (iC (.bl false))) sNext)
  (sRet (iChain fLt fLt (iOp fIx (iVar 0) (iC (.int 0))) (iOp fIx (iVar 0) (iC (.int 1))) (iVar 1))))

/-- 0 people, 1 tasks, 2 task -/
noncomputable def i_check_tasks : Fn := mkFn 2 3 (sSeq (sIf (iOr (iNot (iB (iCall i_is_number (iCons (iVar 0) (iCons (iC (.int 1)) iNil))))) (iB (iOp fGt (iVar 0) (iC (.int 60))))) (sRaise "BadPeople") sNext)
  (sIf (iOr (iNot (iB (iCB fIsi (iCons (iVar 1) (iCons (iC (.ty "list")) iNil))))) (iNot (iB (iCB fAll (iCons (iLc (itList (iVar 1)) (tgName 2) iYes (iCall i_is_task (iCons (iVar 2) (iCons (iVar 0) iNil))) [2]) iNil))))) (sRaise "BadTasks") sNext))

/-- 0 people, 1 limits, 2 one -/
noncomputable def i_check_limits : Fn := mkFn 2 3 (sIf (iOr (iNot (iB (iCB fIsi (iCons (iVar 1) (iCons (iC (.ty "list")) iNil))))) (iOr (iB (iOp fNe (iCB fLen (iCons (iVar 1) iNil)) (iVar 0))) (iNot (iB (iCB fAll (iCons (iLc (itList (iVar 1)) (tgName 2) iYes (iCall i_is_number (iCons (iVar 2) (iCons (iC (.int 0)) iNil))) [2]) iNil)))))) (sRaise "BadLimits") sNext)

/-- 0 tasks, 1 sharing, 2 one, 3 task, 4 who -/
noncomputable def i_is_sharing : Fn := mkFn 2 5 (sSeq (sIf (iOr (iNot (iB (iCB fIsi (iCons (iVar 1) (iCons (iC (.ty "list")) iNil))))) (iOr (iB (iOp fNe (iCB fLen (iCons (iVar 1) iNil)) (iCB fLen (iCons (iVar 0) iNil)))) (iNot (iB (iCB fAll (iCons (iLc (itList (iVar 1)) (tgName 2) iYes (iCall i_is_number (iCons (iVar 2) (iCons (iC (.int 0)) iNil))) [2]) iNil)))))) (sRet (iC (.bl false))) sNext)
  (sRet (iCB fAll (iCons (iLc (itZip (iVar 0) (iVar 1)) (tgTupN 2 [(tgName 3), (tgName 4)]) iYes (iOp (fIn false) (iVar 4) (iVar 3)) [3, 4]) iNil))))

/-- 0 tasks, 1 sharing -/
noncomputable def i_check_sharing : Fn := mkFn 2 2 (sIf (iNot (iB (iCall i_is_sharing (iCons (iVar 0) (iCons (iVar 1) iNil))))) (sRaise "BadSharing") sNext)

/-- 0 people, 1 sharing, 2 found, 3 who -/
noncomputable def i_loads_of : Fn := mkFn 2 4 (sSeq (sAsg (iOp fMul (iLst (iCons (iC (.int 0)) iNil)) (iVar 0)) (tgName 2))
  (sSeq (sFor (itList (iVar 1)) (tgName 3) (sAugS (iVar 2) (iVar 3) (iC (.int 1))))
  (sRet (iVar 2))))

/-- 0 people, 1 tasks, 2 sharing -/
noncomputable def i_loads : Fn := mkFn 3 3 (sSeq (sExpr (iCall i_check_tasks (iCons (iVar 0) (iCons (iVar 1) iNil))))
  (sSeq (sExpr (iCall i_check_sharing (iCons (iVar 1) (iCons (iVar 2) iNil))))
  (sRet (iCall i_loads_of (iCons (iVar 0) (iCons (iVar 2) iNil))))))

/-- 0 task, 1 who -/
noncomputable def i_second_of : Fn := mkFn 2 2 (sRet (iOp fSub (iOp fAdd (iOp fIx (iVar 0) (iC (.int 0))) (iOp fIx (iVar 0) (iC (.int 1)))) (iVar 1)))

/-- 0 tasks, 1 some, 2 task -/
noncomputable def i_among : Fn := mkFn 2 3 (sRet (iCB fLen (iCons (iLc (itList (iVar 0)) (tgName 2) (iAnd (iB (iOp (fIn false) (iOp fIx (iVar 2) (iC (.int 0))) (iVar 1))) (iB (iOp (fIn false) (iOp fIx (iVar 2) (iC (.int 1))) (iVar 1)))) (iVar 2) [2]) iNil)))

/-- 0 some, 1 people, 2 one -/
noncomputable def i_are_people : Fn := mkFn 2 3 (sRet (iAndV (iOp fEq (iVar 0) (iCB fSortedSet (iCons (iVar 0) iNil))) (iCB fAll (iCons (iLc (itList (iVar 0)) (tgName 2) iYes (iChain fLe fLt (iC (.int 0)) (iVar 2) (iVar 1)) [2]) iNil))))

/-- 0 self, 1 sharing -/
noncomputable def i_Shared_init : Fn := mkFn 2 2 (sFldSet (iVar 0) "sharing" (iCB fList (iCons (iVar 1) iNil)))

/-- 0 self, 1 people, 2 tasks, 3 limits, 4 load, 5 limit -/
noncomputable def i_Shared_shows : Fn := mkFn 4 6 (sSeq (sIf (iNot (iB (iCall i_is_sharing (iCons (iVar 2) (iCons (iFld (iVar 0) "sharing") iNil))))) (sRet (iC (.bl false))) sNext)
  (sRet (iCB fAll (iCons (iLc (itZip (iCall i_loads_of (iCons (iVar 1) (iCons (iFld (iVar 0) "sharing") iNil))) (iVar 3)) (tgTupN 2 [(tgName 4), (tgName 5)]) iYes (iOp fLe (iVar 4) (iVar 5)) [4, 5]) iNil))))

/-- 0 self, 1 some -/
noncomputable def i_Crowd_init : Fn := mkFn 2 2 (sFldSet (iVar 0) "some" (iCB fList (iCons (iVar 1) iNil)))

/-- 0 self, 1 people, 2 tasks, 3 limits, 4 one -/
noncomputable def i_Crowd_shows : Fn := mkFn 4 5 (sSeq (sIf (iNot (iB (iCall i_are_people (iCons (iFld (iVar 0) "some") (iCons (iVar 1) iNil))))) (sRet (iC (.bl false))) sNext)
  (sRet (iOp fGt (iCall i_among (iCons (iVar 2) (iCons (iFld (iVar 0) "some") iNil))) (iCB fSum (iCons (iLc (itList (iFld (iVar 0) "some")) (tgName 4) iYes (iOp fIx (iVar 3) (iVar 4)) [4]) iNil)))))

/-- 0 self, 1 sharing, 2 some -/
noncomputable def i_Even_init : Fn := mkFn 3 3 (sSeq (sFldSet (iVar 0) "sharing" (iCB fList (iCons (iVar 1) iNil)))
  (sFldSet (iVar 0) "some" (iCB fList (iCons (iVar 2) iNil))))

/-- 0 self, 1 people, 2 tasks, 3 most -/
noncomputable def i_Even_shows : Fn := mkFn 3 4 (sSeq (sIf (iOr (iNot (iB (iCall i_is_sharing (iCons (iVar 2) (iCons (iFld (iVar 0) "sharing") iNil))))) (iNot (iB (iCall i_are_people (iCons (iFld (iVar 0) "some") (iCons (iVar 1) iNil)))))) (sRet (iC (.bl false))) sNext)
  (sSeq (sIf (iB (iOp fEq (iVar 2) (iLst iNil))) (sRet (iOp fEq (iFld (iVar 0) "some") (iLst iNil))) sNext)
  (sSeq (sAsg (iCB fMax (iCons (iCall i_loads_of (iCons (iVar 1) (iCons (iFld (iVar 0) "sharing") iNil))) iNil)) (tgName 3))
  (sRet (iOp fGt (iCall i_among (iCons (iVar 2) (iCons (iFld (iVar 0) "some") iNil))) (iOp fMul (iOp fSub (iVar 3) (iC (.int 1))) (iCB fLen (iCons (iFld (iVar 0) "some") iNil))))))))

/-- 0 self, 1 tasks -/
noncomputable def i_Chain_init : Fn := mkFn 2 2 (sFldSet (iVar 0) "tasks" (iCB fList (iCons (iVar 1) iNil)))

/-- 0 self, 1 people, 2 tasks, 3 sharing, 4 one, 5 other, 6 came, 7 at -/
noncomputable def i_Chain_shows : Fn := mkFn 6 8 (sSeq (sAsg (iLst (iCons (iVar 4) iNil)) (tgName 6))
  (sSeq (sFor (itList (iFld (iVar 0) "tasks")) (tgName 7) (sSeq (sIf (iOr (iNot (iB (iChain fLe fLt (iC (.int 0)) (iVar 7) (iCB fLen (iCons (iVar 2) iNil))))) (iB (iOp fNe (iOp fIx (iVar 3) (iVar 7)) (iOp fIx (iVar 6) (iUn fNeg (iC (.int 1))))))) (sRet (iC (.bl false))) sNext)
  (sExpr (iBM mAppend (iVar 6) (iCons (iCall i_second_of (iCons (iOp fIx (iVar 2) (iVar 7)) (iCons (iOp fIx (iVar 6) (iUn fNeg (iC (.int 1)))) iNil))) iNil)))))
  (sRet (iAndV (iOp fEq (iOp fIx (iVar 6) (iUn fNeg (iC (.int 1)))) (iVar 5)) (iOp fEq (iCB fLenSet (iCons (iVar 6) iNil)) (iCB fLen (iCons (iVar 6) iNil)))))))

/-- 0 self, 1 some -/
noncomputable def i_Side_init : Fn := mkFn 2 2 (sFldSet (iVar 0) "some" (iCB fList (iCons (iVar 1) iNil)))

/-- 0 self, 1 people, 2 tasks, 3 sharing, 4 one, 5 other, 6 out, 7 at, 8 who -/
noncomputable def i_Side_shows : Fn := mkFn 6 9 (sSeq (sIf (iOr (iNot (iB (iCall i_are_people (iCons (iFld (iVar 0) "some") (iCons (iVar 1) iNil))))) (iOr (iB (iOp (fIn true) (iVar 4) (iFld (iVar 0) "some"))) (iB (iOp (fIn false) (iVar 5) (iFld (iVar 0) "some"))))) (sRet (iC (.bl false))) sNext)
  (sSeq (sAsg (iLc (itEnum (iVar 3)) (tgTupN 2 [(tgName 7), (tgName 8)]) (iAnd (iB (iOp (fIn false) (iVar 8) (iFld (iVar 0) "some"))) (iB (iOp (fIn true) (iCall i_second_of (iCons (iOp fIx (iVar 2) (iVar 7)) (iCons (iVar 8) iNil))) (iFld (iVar 0) "some")))) (iVar 7) [7, 8]) (tgName 6))
  (sRet (iOp fEq (iVar 6) (iLst iNil)))))

/-- 0 tasks, 1 sharing, 2 begins, 3 came, 4 one, 5 waiting, 6 at, 7 here, 8 task, 9 who -/
noncomputable def i_came_from : Fn := mkFn 3 10 (sSeq (sAsg iDNew (tgName 3))
  (sSeq (sFor (itList (iVar 2)) (tgName 4) (sDSet (iVar 3) (iVar 4) (iUn fNeg (iC (.int 1)))))
  (sSeq (sAsg (iCB fList (iCons (iVar 2) iNil)) (tgName 5))
  (sSeq (sAsg (iC (.int 0)) (tgName 6))
  (sSeq (sWhile (iB (iOp fLt (iVar 6) (iCB fLen (iCons (iVar 5) iNil)))) (sSeq (sAsg (iOp fIx (iVar 5) (iVar 6)) (tgName 7))
  (sSeq (sAug 6 (iC (.int 1)))
  (sFor (itEnum (iVar 1)) (tgTupN 2 [(tgName 8), (tgName 9)]) (sIf (iAnd (iB (iOp fEq (iVar 9) (iVar 7))) (iB (iDIn true (iCall i_second_of (iCons (iOp fIx (iVar 0) (iVar 8)) (iCons (iVar 7) iNil))) (iVar 3)))) (sSeq (sDSet (iVar 3) (iCall i_second_of (iCons (iOp fIx (iVar 0) (iVar 8)) (iCons (iVar 7) iNil))) (iVar 8))
  (sExpr (iBM mAppend (iVar 5) (iCons (iCall i_second_of (iCons (iOp fIx (iVar 0) (iVar 8)) (iCons (iVar 7) iNil))) iNil)))) sNext)))))
  (sRet (iVar 3)))))))

/-- 0 tasks, 1 came, 2 person, 3 found -/
noncomputable def i_chain_to : Fn := mkFn 3 4 (sSeq (sAsg (iLst iNil) (tgName 3))
  (sSeq (sWhile (iB (iOp fGe (iDGet (iVar 1) (iVar 2)) (iC (.int 0)))) (sSeq (sExpr (iBM mAppend (iVar 3) (iCons (iDGet (iVar 1) (iVar 2)) iNil)))
  (sAsg (iCall i_second_of (iCons (iOp fIx (iVar 0) (iDGet (iVar 1) (iVar 2))) (iCons (iVar 2) iNil))) (tgName 2))))
  (sRet (iRev (iVar 3)))))

/-- 0 people, 1 tasks, 2 limits, 3 sharing, 4 loads, 5 task, 6 came, 7 free, 8 chain, 9 first, 10 at, 11 one -/
noncomputable def i_share : Fn := mkFn 3 12 (sSeq (sAsg (iLst iNil) (tgName 3))
  (sSeq (sAsg (iOp fMul (iLst (iCons (iC (.int 0)) iNil)) (iVar 0)) (tgName 4))
  (sSeq (sFor (itList (iVar 1)) (tgName 5) (sSeq (sAsg (iCall i_came_from (iCons (iVar 1) (iCons (iVar 3) (iCons (iCB fList (iCons (iVar 5) iNil)) iNil)))) (tgName 6))
  (sSeq (sAsg (iLcK 6 (tgName 11) (iB (iOp fLt (iOp fIx (iVar 4) (iVar 11)) (iOp fIx (iVar 2) (iVar 11)))) (iVar 11) [11]) (tgName 7))
  (sSeq (sIf (iB (iOp fEq (iVar 7) (iLst iNil))) (sRet (IL.iTup (iCons (iVar 3) (iCons (iCB fSortedD (iCons (iVar 6) iNil)) iNil)))) sNext)
  (sSeq (sAsg (iCall i_chain_to (iCons (iVar 1) (iCons (iVar 6) (iCons (iOp fIx (iVar 7) (iC (.int 0))) iNil)))) (tgName 8))
  (sSeq (sAsg (iIf (iB (iOp fNe (iVar 8) (iLst iNil))) (iOp fIx (iVar 3) (iOp fIx (iVar 8) (iC (.int 0)))) (iOp fIx (iVar 7) (iC (.int 0)))) (tgName 9))
  (sSeq (sFor (itList (iVar 8)) (tgName 10) (sAsg (iCall i_second_of (iCons (iOp fIx (iVar 1) (iVar 10)) (iCons (iOp fIx (iVar 3) (iVar 10)) iNil))) (tgSub (iVar 3) (iVar 10))))
  (sSeq (sExpr (iBM mAppend (iVar 3) (iCons (iVar 9) iNil)))
  (sAugS (iVar 4) (iOp fIx (iVar 7) (iC (.int 0))) (iC (.int 1)))))))))))
  (sRet (IL.iTup (iCons (iVar 3) (iCons (iLst iNil) iNil)))))))

/-- 0 people, 1 tasks, 2 limits, 3 sharing, 4 some -/
noncomputable def i_shared : Fn := mkFn 3 5 (sSeq (sExpr (iCall i_check_tasks (iCons (iVar 0) (iCons (iVar 1) iNil))))
  (sSeq (sExpr (iCall i_check_limits (iCons (iVar 0) (iCons (iVar 2) iNil))))
  (sSeq (sAsg (iCall i_share (iCons (iVar 0) (iCons (iVar 1) (iCons (iVar 2) iNil)))) (tgTupN 2 [(tgName 3), (tgName 4)]))
  (sRet (iIf (iB (iOp fEq (iVar 4) (iLst iNil))) (iMake "Shared" i_Shared_init (iCons (iVar 3) iNil)) (iMake "Crowd" i_Crowd_init (iCons (iVar 4) iNil)))))))

/-- 0 people, 1 tasks, 2 most, 3 crowd, 4 sharing, 5 some -/
noncomputable def i_evenest : Fn := mkFn 2 6 (sSeq (sExpr (iCall i_check_tasks (iCons (iVar 0) (iCons (iVar 1) iNil))))
  (sSeq (sAsg (iC (.int 0)) (tgName 2))
  (sSeq (sAsg (iLst iNil) (tgName 3))
  (sSeq (sAsg (iCall i_share (iCons (iVar 0) (iCons (iVar 1) (iCons (iOp fMul (iLst (iCons (iC (.int 0)) iNil)) (iVar 0)) iNil)))) (tgTupN 2 [(tgName 4), (tgName 5)]))
  (sSeq (sWhile (iB (iOp fNe (iVar 5) (iLst iNil))) (sSeq (sAsg (iVar 5) (tgName 3))
  (sSeq (sAug 2 (iC (.int 1)))
  (sAsg (iCall i_share (iCons (iVar 0) (iCons (iVar 1) (iCons (iOp fMul (iLst (iCons (iVar 2) iNil)) (iVar 0)) iNil)))) (tgTupN 2 [(tgName 4), (tgName 5)])))))
  (sRet (iMake "Even" i_Even_init (iCons (iVar 4) (iCons (iVar 3) iNil)))))))))

/-- 0 people, 1 tasks, 2 sharing, 3 one, 4 other, 5 person, 6 came -/
noncomputable def i_passed : Fn := mkFn 5 7 (sSeq (sExpr (iCall i_check_tasks (iCons (iVar 0) (iCons (iVar 1) iNil))))
  (sSeq (sExpr (iCall i_check_sharing (iCons (iVar 1) (iCons (iVar 2) iNil))))
  (sSeq (sFor (itTup (IL.iTup (iCons (iVar 3) (iCons (iVar 4) iNil)))) (tgName 5) (sIf (iOr (iNot (iB (iCall i_is_number (iCons (iVar 5) (iCons (iC (.int 0)) iNil))))) (iB (iOp fGe (iVar 5) (iVar 0)))) (sRaise "BadPerson") sNext))
  (sSeq (sIf (iB (iOp fEq (iVar 3) (iVar 4))) (sRaise "BadPerson") sNext)
  (sSeq (sAsg (iCall i_came_from (iCons (iVar 1) (iCons (iVar 2) (iCons (iLst (iCons (iVar 3) iNil)) iNil)))) (tgName 6))
  (sSeq (sIf (iB (iDIn true (iVar 4) (iVar 6))) (sRet (iMake "Side" i_Side_init (iCons (iCB fSortedD (iCons (iVar 6) iNil)) iNil))) sNext)
  (sRet (iMake "Chain" i_Chain_init (iCons (iCall i_chain_to (iCons (iVar 1) (iCons (iVar 6) (iCons (iVar 4) iNil)))) iNil)))))))))

/-- 0 person, 1 giving, 2 another, 3 found, 4 way, 5 here, 6 met, 7 at, 8 first -/
noncomputable def i_rings_from : Fn := mkFn 3 9 (sSeq (sAsg (iLst iNil) (tgName 3))
  (sSeq (sAsg (iLst iNil) (tgName 4))
  (sSeq (sAsg (iVar 0) (tgName 5))
  (sSeq (sAsg (iLst (iCons (iVar 0) iNil)) (tgName 6))
  (sSeq (sWhile (iOr (iB (iOp fNe (iOp fIx (iVar 1) (iVar 5)) (iLst iNil))) (iB (iOp fNe (iVar 4) (iLst iNil)))) (sSeq (sAsg (iBM mPop (iOp fIx (iVar 1) (iVar 5)) iNil) (tgName 7))
  (sSeq (sExpr (iBM mAppend (iVar 4) (iCons (iVar 7) iNil)))
  (sSeq (sAsg (iOp fIx (iVar 2) (iVar 7)) (tgName 5))
  (sIf (iB (iOp (fIn false) (iVar 5) (iVar 6))) (sSeq (sAsg (iBM mIndex (iVar 6) (iCons (iVar 5) iNil)) (tgName 8))
  (sSeq (sExpr (iBM mAppend (iVar 3) (iCons (iSl (iVar 4) (iPart (iVar 8)) iNoPart) iNil)))
  (sSeq (sAsg (iSl (iVar 4) iNoPart (iPart (iVar 8))) (tgName 4))
  (sAsg (iSl (iVar 6) iNoPart (iPart (iOp fAdd (iVar 8) (iC (.int 1))))) (tgName 6))))) (sExpr (iBM mAppend (iVar 6) (iCons (iVar 5) iNil))))))))
  (sRet (iVar 3)))))))

/-- 0 people, 1 tasks, 2 sharing, 3 another, 4 giving, 5 at, 6 who, 7 found, 8 person -/
noncomputable def i_rings : Fn := mkFn 4 9 (sSeq (sExpr (iCall i_check_tasks (iCons (iVar 0) (iCons (iVar 1) iNil))))
  (sSeq (sExpr (iCall i_check_sharing (iCons (iVar 1) (iCons (iVar 2) iNil))))
  (sSeq (sExpr (iCall i_check_sharing (iCons (iVar 1) (iCons (iVar 3) iNil))))
  (sSeq (sIf (iB (iOp fNe (iCall i_loads_of (iCons (iVar 0) (iCons (iVar 2) iNil))) (iCall i_loads_of (iCons (iVar 0) (iCons (iVar 3) iNil))))) (sRaise "Unlike") sNext)
  (sSeq (sAsg (iLc (itRng (iVar 0)) (tgName 8) iYes (iLst iNil) [8]) (tgName 4))
  (sSeq (sFor (itEnum (iVar 2)) (tgTupN 2 [(tgName 5), (tgName 6)]) (sIf (iB (iOp fNe (iOp fIx (iVar 3) (iVar 5)) (iVar 6))) (sExpr (iBM mAppend (iOp fIx (iVar 4) (iVar 6)) (iCons (iVar 5) iNil))) sNext))
  (sSeq (sAsg (iLst iNil) (tgName 7))
  (sSeq (sFor (itRng (iVar 0)) (tgName 8) (sWhile (iB (iOp fNe (iOp fIx (iVar 4) (iVar 8)) (iLst iNil))) (sExpr (iBM mExtend (iVar 7) (iCons (iCall i_rings_from (iCons (iVar 8) (iCons (iVar 4) (iCons (iVar 3) iNil)))) iNil)))))
  (sRet (iVar 7))))))))))

end IL

end
section
set_option linter.all false
set_option maxRecDepth 100000
namespace IL
open PySem L2
/-- 0 _law_cell, 1 _law_at, 2 _law_whole, 3 _law_mixed, 4 _law_more -/
noncomputable def i__law_number : Fn := mkFn 3 5 (sSeq (sIf (iB (iOp fGe (iVar 0) (iOp fPow (iC (.int 10)) (iC (.int 18))))) (sRet (iVar 0)) sNext)
  (sSeq (sAsg (iOp fMod (iOp fAdd (iOp fMul (iOp fAdd (iVar 0) (iOp fMul (iC (.int 977)) (iVar 1))) (iC (.int 48271))) (iVar 2)) (iC (.int 2147483647))) (tgName 3))
  (sSeq (sAsg (iOp fMul (iOp fMul (iVar 3) (iOp fAdd (iOp fAdd (iVar 3) (iOp fMul (iC (.int 31)) (iVar 1))) (iC (.int 7)))) (iOp fAdd (iOp fAdd (iVar 3) (iVar 0)) (iC (.int 5)))) (tgName 4))
  (sRet (iOp fDiv (iOp fMul (iVar 4) (iOp fAdd (iVar 4) (iC (.int 48271)))) (iC (.int 1009)))))))

/-- 0 _law_script, 1 _law_cells, 2 _law_whole, 3 _law_people, 4 _law_found, 5 _law_at, 6 _law_cell, 7 _law_number_here, 8 _law_one, 9 _law_other -/
noncomputable def i__law_tasks : Fn := mkFn 1 10 (sSeq (sAsg (iSl (iVar 0) iNoPart (iPart (iC (.int 63)))) (tgName 1))
  (sSeq (sAsg (iCB fSum (iCons (iVar 1) iNil)) (tgName 2))
  (sSeq (sAsg (iOp fIx (IL.iTup (iCons (iC (.int 2)) (iCons (iC (.int 3)) (iCons (iC (.int 5)) (iCons (iC (.int 9)) (iCons (iC (.int 20)) (iCons (iC (.int 60)) (iCons (iC (.int 4)) (iCons (iCB fMax (iCons (iC (.int 2)) (iCons (iOp fDiv (iOp fMul (iCB fLen (iCons (iVar 1) iNil)) (iC (.int 2))) (iC (.int 3))) iNil))) iNil))))))))) (iOp fMod (iOp fDiv (iVar 2) (iC (.int 3))) (iC (.int 8)))) (tgName 3))
  (sSeq (sAsg (iLst iNil) (tgName 4))
  (sSeq (sFor (itEnum (iVar 1)) (tgTupN 2 [(tgName 5), (tgName 6)]) (sSeq (sAsg (iCall i__law_number (iCons (iVar 6) (iCons (iVar 5) (iCons (iVar 2) iNil)))) (tgName 7))
  (sSeq (sAsg (iOp fMod (iVar 7) (iVar 3)) (tgName 8))
  (sSeq (sIf (iB (iOp fEq (iOp fMod (iOp fDiv (iVar 2) (iC (.int 24))) (iC (.int 6))) (iC (.int 1)))) (sAsg (iOp fMod (iOp fMod (iVar 7) (iC (.int 3))) (iVar 3)) (tgName 8)) sNext)
  (sSeq (sAsg (iOp fMod (iOp fAdd (iOp fAdd (iVar 8) (iC (.int 1))) (iOp fMod (iOp fDiv (iVar 7) (iVar 3)) (iOp fSub (iVar 3) (iC (.int 1))))) (iVar 3)) (tgName 9))
  (sSeq (sIf (iB (iOp fEq (iOp fMod (iOp fDiv (iVar 2) (iC (.int 24))) (iC (.int 6))) (iC (.int 2)))) (sAsg (iOp fMod (iOp fAdd (iVar 8) (iC (.int 1))) (iVar 3)) (tgName 9)) sNext)
  (sSeq (sIf (iB (iOp fEq (iOp fMod (iOp fDiv (iVar 2) (iC (.int 24))) (iC (.int 6))) (iC (.int 3)))) (sPar 8 9 (iCons (iOp fMod (iVar 5) (iVar 3)) (iCons (iOp fMod (iOp fAdd (iVar 5) (iC (.int 1))) (iVar 3)) iNil))) sNext)
  (sExpr (iBM mAppend (iVar 4) (iCons (IL.iTup (iCons (iCB fMin (iCons (iVar 8) (iCons (iVar 9) iNil))) (iCons (iCB fMax (iCons (iVar 8) (iCons (iVar 9) iNil))) iNil))) iNil))))))))))
  (sRet (IL.iTup (iCons (iVar 3) (iCons (iVar 4) iNil)))))))))

/-- 0 _law_script, 1 _law_tasks_here, 2 _law_by, 3 _law_cells, 4 _law_whole, 5 _law_found, 6 _law_at, 7 _law_task, 8 _law_number_here -/
noncomputable def i__law_sharing : Fn := mkFn 3 9 (sSeq (sAsg (iSl (iVar 0) iNoPart (iPart (iC (.int 63)))) (tgName 3))
  (sSeq (sAsg (iCB fSum (iCons (iVar 3) iNil)) (tgName 4))
  (sSeq (sAsg (iLst iNil) (tgName 5))
  (sSeq (sFor (itEnum (iVar 1)) (tgTupN 2 [(tgName 6), (tgName 7)]) (sSeq (sAsg (iCall i__law_number (iCons (iOp fIx (iVar 3) (iVar 6)) (iCons (iOp fAdd (iVar 6) (iOp fMul (iC (.int 63)) (iVar 2))) (iCons (iVar 4) iNil)))) (tgName 8))
  (sExpr (iBM mAppend (iVar 5) (iCons (iOp fIx (iVar 7) (iOp fMod (iOp fDiv (iVar 8) (iOp fIx (IL.iTup (iCons (iC (.int 10007)) (iCons (iC (.int 196613)) iNil))) (iVar 2))) (iC (.int 2)))) iNil)))))
  (sRet (iVar 5))))))

/-- 0 _law_people, 1 _law_sharing_here, 2 _law_found, 3 _law_who -/
noncomputable def i__law_loads : Fn := mkFn 2 4 (sSeq (sAsg (iOp fMul (iLst (iCons (iC (.int 0)) iNil)) (iVar 0)) (tgName 2))
  (sSeq (sFor (itList (iVar 1)) (tgName 3) (sAsg (iOp fAdd (iOp fIx (iVar 2) (iVar 3)) (iC (.int 1))) (tgSub (iVar 2) (iVar 3))))
  (sRet (iVar 2))))

/-- 0 _law_found, 1 _law_one -/
noncomputable def i__law_wholes : Fn := mkFn 1 2 (sSeq (sIf (iNot (iB (iCB fIsi (iCons (iVar 0) (iCons (iC (.ty "list")) iNil))))) (sRet (iC (.bl false))) sNext)
  (sRet (iCB fAll (iCons (iLc (itList (iVar 0)) (tgName 1) iYes (iAndV (iCB fIsi (iCons (iVar 1) (iCons (iC (.ty "int")) iNil))) (iNotV (iCB fIsi (iCons (iVar 1) (iCons (iC (.ty "bool")) iNil))))) [1]) iNil))))

/-- 0 _law_task, 1 _law_who -/
noncomputable def i__law_second : Fn := mkFn 2 2 (sRet (iOp fSub (iOp fAdd (iOp fIx (iVar 0) (iC (.int 0))) (iOp fIx (iVar 0) (iC (.int 1)))) (iVar 1)))

end IL

end
section
set_option linter.all false
set_option maxRecDepth 100000
namespace IL
open PySem L2
/-- 0 _law_tasks_here, 1 _law_sharing_here, 2 _law_begin, 3 _law_here, 4 _law_way, 5 _law_met, 6 _law_mine, 7 _law_found, 8 _law_at, 9 _law_who -/
noncomputable def i__law_turned : Fn := mkFn 3 10 (sSeq (sAsg (IL.iTup (iCons (iVar 2) (iCons (iLst iNil) (iCons (iLst (iCons (iVar 2) iNil)) iNil)))) (tgTupN 3 [(tgName 3), (tgName 4), (tgName 5)]))
  (sWhile (iB (iC (.bl true))) (sSeq (sAsg (iLc (itEnum (iVar 1)) (tgTupN 2 [(tgName 8), (tgName 9)]) (iAnd (iB (iOp fEq (iVar 9) (iVar 3))) (iB (iOp (fIn true) (iVar 8) (iVar 4)))) (iVar 8) [8, 9]) (tgName 6))
  (sSeq (sIf (iB (iOp fEq (iVar 6) (iLst iNil))) (sRet (iCB fList (iCons (iVar 1) iNil))) sNext)
  (sSeq (sExpr (iBM mAppend (iVar 4) (iCons (iOp fIx (iVar 6) (iOp fMod (iVar 2) (iCB fLen (iCons (iVar 6) iNil)))) iNil)))
  (sSeq (sAsg (iCall i__law_second (iCons (iOp fIx (iVar 0) (iOp fIx (iVar 4) (iUn fNeg (iC (.int 1))))) (iCons (iVar 3) iNil))) (tgName 3))
  (sSeq (sIf (iB (iOp (fIn false) (iVar 3) (iVar 5))) (sSeq (sAsg (iCB fList (iCons (iVar 1) iNil)) (tgName 7))
  (sSeq (sFor (itList (iSl (iVar 4) (iPart (iBM mIndex (iVar 5) (iCons (iVar 3) iNil))) iNoPart)) (tgName 8) (sAsg (iCall i__law_second (iCons (iOp fIx (iVar 0) (iVar 8)) (iCons (iOp fIx (iVar 7) (iVar 8)) iNil))) (tgSub (iVar 7) (iVar 8))))
  (sRet (iVar 7)))) sNext)
  (sExpr (iBM mAppend (iVar 5) (iCons (iVar 3) iNil))))))))))

/-- 0 _law_people, 1 _law_tasks_here, 2 _law_sharing_here, 3 _law_another, 4 _law_handed, 5 _law_again, 6 _law_found, 7 _law_seen, 8 _law_ring, 9 _law_doers, 10 _law_kept, 11 _law_at -/
noncomputable def i__law_right : Fn := mkFn 4 12 (sSeq (sAsg (iLst (iCons (iCB fList (iCons (iVar 1) iNil)) (iCons (iCB fList (iCons (iVar 2) iNil)) (iCons (iCB fList (iCons (iVar 3) iNil)) iNil)))) (tgName 4))
  (sSeq (sFor (itRng (iC (.int 2))) (tgName 5) (sSeq (sAsg (iCall i_rings (iCons (iVar 0) (iCons (iOp fIx (iVar 4) (iC (.int 0))) (iCons (iOp fIx (iVar 4) (iC (.int 1))) (iCons (iOp fIx (iVar 4) (iC (.int 2))) iNil))))) (tgName 6))
  (sSeq (sIf (iOr (iNot (iB (iCB fIsi (iCons (iVar 6) (iCons (iC (.ty "list")) iNil))))) (iB (iOp fNe (iVar 4) (iLst (iCons (iVar 1) (iCons (iVar 2) (iCons (iVar 3) iNil))))))) (sRet (iC (.bl false))) sNext)
  (sSeq (sAsg (iLst iNil) (tgName 7))
  (sSeq (sFor (itList (iVar 6)) (tgName 8) (sSeq (sIf (iOr (iNot (iB (iCall i__law_wholes (iCons (iVar 8) iNil)))) (iOr (iB (iOp fEq (iVar 8) (iLst iNil))) (iNot (iB (iCB fAll (iCons (iLc (itList (iVar 8)) (tgName 11) iYes (iChain fLe fLt (iC (.int 0)) (iVar 11) (iCB fLen (iCons (iVar 1) iNil))) [11]) iNil)))))) (sRet (iC (.bl false))) sNext)
  (sSeq (sAsg (iLc (itList (iVar 8)) (tgName 11) iYes (iOp fIx (iVar 2) (iVar 11)) [11]) (tgName 9))
  (sSeq (sIf (iB (iOp fNe (iCB fLenSet (iCons (iVar 9) iNil)) (iCB fLen (iCons (iVar 9) iNil)))) (sRet (iC (.bl false))) sNext)
  (sSeq (sIf (iB (iOp fNe (iLc (itList (iVar 8)) (tgName 11) iYes (iCall i__law_second (iCons (iOp fIx (iVar 1) (iVar 11)) (iCons (iOp fIx (iVar 2) (iVar 11)) iNil))) [11]) (iOp fAdd (iSl (iVar 9) (iPart (iC (.int 1))) iNoPart) (iSl (iVar 9) iNoPart (iPart (iC (.int 1))))))) (sRet (iC (.bl false))) sNext)
  (sAsg (iOp fAdd (iVar 7) (iVar 8)) (tgName 7)))))))
  (sSeq (sIf (iB (iOp fNe (iCB fSorted (iCons (iVar 7) iNil)) (iLc (itRng (iCB fLen (iCons (iVar 1) iNil))) (tgName 11) (iB (iOp fNe (iOp fIx (iVar 2) (iVar 11)) (iOp fIx (iVar 3) (iVar 11)))) (iVar 11) [11]))) (sRet (iC (.bl false))) sNext)
  (sSeq (sAsg (iLc (itList (iVar 6)) (tgName 8) iYes (iCB fList (iCons (iVar 8) iNil)) [8]) (tgName 10))
  (sSeq (sFor (itList (iVar 6)) (tgName 8) (sExpr (iBM mAppend (iVar 8) (iCons (iUn fNeg (iC (.int 1))) iNil))))
  (sSeq (sExpr (iBM mAppend (iVar 6) (iCons (iLst iNil) iNil)))
  (sIf (iB (iOp fNe (iCall i_rings (iCons (iVar 0) (iCons (iOp fIx (iVar 4) (iC (.int 0))) (iCons (iOp fIx (iVar 4) (iC (.int 1))) (iCons (iOp fIx (iVar 4) (iC (.int 2))) iNil))))) (iVar 10))) (sRet (iC (.bl false))) sNext))))))))))
  (sRet (iC (.bl true)))))

/-- 0 _law_size, 1 _law_turn, 2 _law_names, 3 _law_order, 4 _law_row, 5 _law_tasks_here, 6 _law_there, 7 _law_one, 8 _law_other, 9 _law_found, 10 _law_name, 11 _law_at -/
noncomputable def i__law_around_right : Fn := mkFn 2 12 (sSeq (sAsg (iLc (itRng (iVar 0)) (tgName 7) iYes (iOp fMod (iOp fAdd (iOp fMul (iVar 1) (iC (.int 7))) (iOp fMul (iVar 7) (iC (.int 11)))) (iC (.int 61))) [7]) (tgName 2))
  (sSeq (sAsg (iCB fSorted (iCons (iVar 2) iNil)) (tgName 3))
  (sSeq (sAsg (iLc (itList (iVar 2)) (tgName 10) iYes (iBM mIndex (iVar 3) (iCons (iVar 10) iNil)) [10]) (tgName 4))
  (sSeq (sAsg (iLc (itRng (iVar 0)) (tgName 11) iYes (iCB fTuple (iCons (iCB fSorted (iCons (iLst (iCons (iOp fIx (iVar 4) (iVar 11)) (iCons (iOp fIx (iVar 4) (iOp fMod (iOp fAdd (iVar 11) (iC (.int 1))) (iVar 0))) iNil))) iNil)) iNil)) [11]) (tgName 5))
  (sSeq (sAsg (iOp fAdd (iSl (iVar 4) (iPart (iC (.int 1))) iNoPart) (iSl (iVar 4) iNoPart (iPart (iC (.int 1))))) (tgName 6))
  (sSeq (sFor (itList (iLst (iCons (IL.iTup (iCons (iVar 4) (iCons (iVar 6) iNil))) (iCons (IL.iTup (iCons (iVar 6) (iCons (iVar 4) iNil))) iNil)))) (tgTupN 2 [(tgName 7), (tgName 8)]) (sSeq (sAsg (iCall i_rings (iCons (iVar 0) (iCons (iVar 5) (iCons (iVar 7) (iCons (iVar 8) iNil))))) (tgName 9))
  (sIf (iOr (iB (iOp fNe (iCB fLen (iCons (iVar 9) iNil)) (iC (.int 1)))) (iOr (iB (iOp fNe (iCB fSorted (iCons (iOp fIx (iVar 9) (iC (.int 0))) iNil)) (iListRg (iVar 0)))) (iNot (iB (iCall i__law_right (iCons (iVar 0) (iCons (iVar 5) (iCons (iVar 7) (iCons (iVar 8) iNil))))))))) (sRet (iC (.bl false))) sNext)))
  (sRet (iC (.bl true)))))))))

/-- 0 _law_script, 1 _law_people, 2 _law_tasks_here, 3 _law_first, 4 _law_second_here, 5 _law_begin, 6 _law_one, 7 _law_other, 8 _law_drawn, 9 _law_around -/
noncomputable def i_law : Fn := mkFn 1 10 (sSeq (sAsg (iCall i__law_tasks (iCons (iVar 0) iNil)) (tgTupN 2 [(tgName 1), (tgName 2)]))
  (sSeq (sIf (iNot (iB (iCall i__law_around_right (iCons (iOp fAdd (iC (.int 3)) (iOp fMod (iCB fSum (iCons (iSl (iVar 0) iNoPart (iPart (iC (.int 63)))) iNil)) (iC (.int 58)))) (iCons (iCB fSum (iCons (iSl (iVar 0) iNoPart (iPart (iC (.int 63)))) iNil)) iNil))))) (sRet (iC (.bl false))) sNext)
  (sSeq (sAsg (iCall i__law_sharing (iCons (iVar 0) (iCons (iVar 2) (iCons (iC (.int 0)) iNil)))) (tgName 3))
  (sSeq (sAsg (iVar 3) (tgName 4))
  (sSeq (sFor (itRng (iCB fMin (iCons (iVar 1) (iCons (iC (.int 12)) iNil)))) (tgName 5) (sAsg (iCall i__law_turned (iCons (iVar 2) (iCons (iVar 4) (iCons (iVar 5) iNil)))) (tgName 4)))
  (sSeq (sFor (itList (iLst (iCons (IL.iTup (iCons (iVar 3) (iCons (iVar 4) iNil))) (iCons (IL.iTup (iCons (iVar 4) (iCons (iVar 3) iNil))) (iCons (IL.iTup (iCons (iVar 3) (iCons (iVar 3) iNil))) iNil))))) (tgTupN 2 [(tgName 6), (tgName 7)]) (sIf (iNot (iB (iCall i__law_right (iCons (iVar 1) (iCons (iVar 2) (iCons (iVar 6) (iCons (iVar 7) iNil))))))) (sRet (iC (.bl false))) sNext))
  (sSeq (sAsg (iCall i__law_sharing (iCons (iVar 0) (iCons (iVar 2) (iCons (iC (.int 1)) iNil)))) (tgName 8))
  (sSeq (sIf (iAnd (iB (iOp fEq (iCall i__law_loads (iCons (iVar 1) (iCons (iVar 8) iNil))) (iCall i__law_loads (iCons (iVar 1) (iCons (iVar 3) iNil))))) (iNot (iB (iCall i__law_right (iCons (iVar 1) (iCons (iVar 2) (iCons (iVar 3) (iCons (iVar 8) iNil)))))))) (sRet (iC (.bl false))) sNext)
  (sSeq (sAsg (iCall i_rings (iCons (iC (.int 3)) (iCons (iLst (iCons (IL.iTup (iCons (iC (.int 0)) (iCons (iC (.int 1)) iNil))) (iCons (IL.iTup (iCons (iC (.int 1)) (iCons (iC (.int 2)) iNil))) (iCons (IL.iTup (iCons (iC (.int 0)) (iCons (iC (.int 2)) iNil))) iNil)))) (iCons (iLst (iCons (iC (.int 0)) (iCons (iC (.int 1)) (iCons (iC (.int 2)) iNil)))) (iCons (iLst (iCons (iC (.int 1)) (iCons (iC (.int 2)) (iCons (iC (.int 0)) iNil)))) iNil))))) (tgName 9))
  (sRet (iAndV (iOp fEq (iCB fLen (iCons (iVar 9) iNil)) (iC (.int 1))) (iAndV (iOp fEq (iCB fSorted (iCons (iOp fIx (iVar 9) (iC (.int 0))) iNil)) (iLst (iCons (iC (.int 0)) (iCons (iC (.int 1)) (iCons (iC (.int 2)) iNil))))) (iOp fEq (iCall i_rings (iCons (iC (.int 2)) (iCons (iLst (iCons (IL.iTup (iCons (iC (.int 0)) (iCons (iC (.int 1)) iNil))) (iCons (IL.iTup (iCons (iC (.int 0)) (iCons (iC (.int 1)) iNil))) iNil))) (iCons (iLst (iCons (iC (.int 0)) (iCons (iC (.int 1)) iNil))) (iCons (iLst (iCons (iC (.int 0)) (iCons (iC (.int 1)) iNil))) iNil))))) (iLst iNil))))))))))))))

end IL

end
section
set_option linter.all false
set_option maxRecDepth 100000
namespace IL
open PySem L2
theorem is_number_int (i l : Int) (S : Sto) : i_is_number [.int i, .int l] S = .ok (.bl (decide (l ≤ i))) S := by
  simp [i_is_number, mkFn, sRet, iAndV, iCB, iCons, iVar, iC, iNil, fIsi, tyB, kit_ii, kit_ib, asB, iNotV, iOp, fII, O.val]
theorem is_task_ok {S : Sto} {q : Nat} {x y n : Int} (h : S[q]? = some (.tup [.int x, .int y])) : i_is_task [.ref q, .int n] S = .ok (.bl (decide (0 ≤ x) && decide (0 ≤ y) && (decide (x < y) && decide (y < n)))) (S ++ [.lst [.bl (decide (0 ≤ x)), .bl (decide (0 ≤ y))]]) := by
  have h1 : ∀ T, (S ++ T)[q]? = some (.tup [.int x, .int y]) := fun T => get_app h
  by_cases h0 : 0 ≤ x <;> by_cases h2 : 0 ≤ y <;> by_cases h3 : x < y <;> by_cases h4 : y < n <;>
  simp [i_is_task, mkFn, sSeq, sIf, iOr, iNot, iB, iCB, iCons, iVar, iC, iNil, fIsi, tyB, kit_tt, asB, iOp, fII, O.val, h, h1, sRet, fLen, getQ, getL, getT, fNe, toP, PyData.eqv, iLc, itTup, lcL, sameAt, tgName, iYes, iCall, is_number_int, wipeE, fAll, asBs, asBl, allO, sNext, iChain, fIx, atI, ixN, h0, h2, h3, h4]
/-- tasks of n people -/
def GT (n : Nat) (ts : List (Nat × Nat)) : Prop := ∀ t ∈ ts, t.1 < t.2 ∧ t.2 < n
/-- a sharing of them -/
def GS (ts : List (Nat × Nat)) (sh : List Nat) : Prop := Paired (fun t x => x = t.1 ∨ x = t.2) ts sh
theorem mem_map_one {vs : List Va} {it : It1} (h : it ∈ vs.map It1.one) : ∃ v ∈ vs, it = .one v := by
  obtain ⟨v, h1, h2⟩ := List.mem_map.mp h; exact ⟨v, h1, h2.symm⟩
theorem Paired.mem {α β : Type} {F : α → β → Prop} {xs : List α} {ys : List β} {x : α} (r : Paired F xs ys) (h : x ∈ xs) : ∃ y ∈ ys, F x y := by
  obtain ⟨k, hk⟩ := List.getElem?_of_mem h
  obtain ⟨y, h1, h2⟩ := Paired.get r hk
  exact ⟨y, List.mem_of_getElem? h1, h2⟩
theorem filter_true {α : Type} (l : List α) : l.filter (fun _ => true) = l := by simp
theorem check_tasks_ok {S : Sto} {p n : Nat} {vs : List Va} {ts : List (Nat × Nat)} (hp : S[p]? = some (.lst vs)) (ht : Tks S vs ts) (hg : GT n ts) (h1 : 1 ≤ n) (h2 : n ≤ 60) (hl : ts.length ≤ 100000) :
    ∃ T, i_check_tasks [vN n, .ref p] S = .ok .non (S ++ T) := by
  have hv := Paired.len ht
  obtain ⟨T', k, h, hk⟩ := lc_run (ii := itList (iVar 1)) (tg := tgName 2) (tt := iYes) (ie := iCall i_is_task (iCons (iVar 2) (iCons (iVar 0) iNil))) (vs := [2]) (ρ := [some (vN n), some (.ref p), none]) (S := S) (its := vs.map .one) (chk := sameAt S (.ref p))
    (by simp [itList, iVar, getL_ref hp]) (by rw [List.length_map]; omega) (fun T => sameAt_app hp) (fun _ => true) (fun _ => .bl true) (fun it hi T => by
    obtain ⟨v, hv, rfl⟩ := mem_map_one hi
    obtain ⟨t, ht1, q, rfl, hq⟩ := Paired.mem ht hv
    obtain ⟨g1, g2⟩ := hg t ht1
    refine ⟨_, T, rfl, rfl, fun _ => ?_⟩
    have := is_task_ok (n := n) (get_app (T := T) hq)
    have e : (decide ((0 : Int) ≤ t.1) && decide ((0 : Int) ≤ t.2) && (decide ((t.1 : Int) < t.2) && decide ((t.2 : Int) < n))) = true := by simp; omega
    rw [e, List.append_assoc] at this
    exact ⟨_, this⟩)
  have hk' := hk []
  rw [List.append_nil, filter_true, List.map_map] at hk'
  have hb : asBs (vs.map ((fun _ => Va.bl true) ∘ It1.one)) = some (vs.map fun _ => true) := asBs_B (fun _ => true) vs
  have e0 : ¬ (60 : Int) < n := by omega
  have e1 : (1 : Int) ≤ n := by omega
  refine ⟨T', ?_⟩
  simp [i_check_tasks, mkFn, sSeq, sIf, iOr, iNot, iB, iCall, iCons, iVar, iC, iNil, vN, is_number_int, asB, iOp, fII, e0, e1, sNext, iCB, fIsi, tyB, hp, kit_ll] at h ⊢
  simp [h, fAll, getL_ref hk', hb, asB, O.val]
theorem check_tasks_ok' {S : Sto} {p n : Nat} {vs : List Va} {ts : List (Nat × Nat)} (hp : S[p]? = some (.lst vs)) (ht : Tks S vs ts) (hg : GT n ts) (h1 : 1 ≤ n) (h2 : n ≤ 60) (hl : ts.length ≤ 100000) (T0 : Sto) :
    ∃ T, i_check_tasks [vN n, .ref p] (S ++ T0) = .ok .non (S ++ T) := by
  obtain ⟨T, h⟩ := check_tasks_ok (get_app (T := T0) hp) ht.app hg h1 h2 hl
  exact ⟨T0 ++ T, by rw [h, List.append_assoc]⟩
theorem beq_dec (a b : Int) : (a == b) = decide (b = a) := by
  by_cases h : b = a
  · subst h; simp
  · rw [decide_eq_false h]; simp; omega
/-- what is_sharing says of a list of ints -/
def isShB (ts : List (Nat × Nat)) (xs : List Int) : Bool := decide (xs.length = ts.length) && (xs.all (fun x => decide (0 ≤ x)) && (ts.zip xs).all fun tx => decide (tx.2 = tx.1.1) || decide (tx.2 = tx.1.2))
theorem is_sharing_ok {S : Sto} {p q : Nat} {vs : List Va} {ts : List (Nat × Nat)} {xs : List Int} (hp : S[p]? = some (.lst vs)) (ht : Tks S vs ts) (hq : S[q]? = some (.lst (xs.map .int))) (hl : xs.length ≤ 100000) :
    ∃ T, i_is_sharing [.ref p, .ref q] S = .ok (.bl (isShB ts xs)) (S ++ T) := by
  have hv := Paired.len ht
  have hlen : (fNe (.int xs.length) (.int vs.length) S) = .ok (.bl (!decide (xs.length = vs.length))) S := by
    simp only [fNe, toP, PyData.eqv]
    congr 2
    by_cases e : xs.length = vs.length
    · simp [e]
    · have : ((xs.length : Int) == (vs.length : Int)) = false := by simp; omega
      rw [this, decide_eq_false e]
  have c1 := lcr_run0 (ii := itList (iVar 1)) (tg := tgName 2) (tt := iYes) (ie := iCall i_is_number (iCons (iVar 2) (iCons (iC (.int 0)) iNil))) (vs := [2]) (ρ := [some (.ref p), some (.ref q), none, none, none]) (S := S) (its := (xs.map .int).map .one) (os := xs.map fun x => some (.bl (decide (0 ≤ x)))) (chk := sameAt S (.ref q))
    (by simp [itList, iVar, getL_ref hq]) (by simp; exact hl) sameAt_self (Paired.of_get (by simp) fun k it o h1 h2 => by
      obtain ⟨v, e1, rfl⟩ := map_one_get h1
      obtain ⟨x, e2, rfl⟩ := map_get e1
      obtain ⟨x', e3, rfl⟩ := map_get h2
      rw [e2] at e3; cases e3
      refine ⟨_, rfl, rfl, fun y hy => ?_⟩
      cases hy
      exact is_number_int x 0 S)
  rw [fmap_some] at c1
  have b1 := asBs_B (fun x : Int => decide (0 ≤ x)) xs
  have hp' : ∀ T, (S ++ T)[p]? = some (.lst vs) := fun T => get_app hp
  have hq' : ∀ T, (S ++ T)[q]? = some (.lst (xs.map .int)) := fun T => get_app hq
  by_cases e1 : xs.length = vs.length
  · have hlen' : (fNe (.int xs.length) (.int vs.length) S) = .ok (.bl false) S := by rw [hlen, decide_eq_true e1]; rfl
    by_cases e2 : xs.all (fun x => decide (0 ≤ x)) = true
    · have c2 := lcr_run0 (ii := itZip (iVar 0) (iVar 1)) (tg := tgTupN 2 [tgName 3, tgName 4]) (tt := iYes) (ie := iOp (fIn false) (iVar 4) (iVar 3)) (vs := [3, 4]) (ρ := [some (.ref p), some (.ref q), none, none, none]) (S := S ++ [.lst (xs.map fun x => .bl (decide (0 ≤ x)))]) (its := zipI vs (xs.map .int))
        (os := (ts.zip xs).map fun tx => some (.bl (decide (tx.2 = tx.1.1) || decide (tx.2 = tx.1.2)))) (chk := fun S' => sameAt (S ++ [.lst (xs.map fun x => .bl (decide (0 ≤ x)))]) (.ref p) S' && sameAt (S ++ [.lst (xs.map fun x => .bl (decide (0 ≤ x)))]) (.ref q) S')
        (by simp [itZip, iVar, getL_ref (hp' _), getL_ref (hq' _)]) (by rw [zipI_length]; simp; omega) (by simp [sameAt_self]) (Paired.of_get (by rw [zipI_length]; simp; omega) fun k it o h1 h2 => by
          obtain ⟨v, w, z1, z2, rfl⟩ := zipI_get _ _ _ _ h1
          obtain ⟨x, z3, rfl⟩ := map_get z2
          obtain ⟨tx, z4, rfl⟩ := map_get h2
          obtain ⟨z5, z6⟩ := zip_get z4
          rw [z3] at z6; cases z6
          obtain ⟨t, z7, a, rfl, ha⟩ := Paired.get ht z1
          rw [z7] at z5; cases z5
          refine ⟨_, rfl, rfl, fun y hy => ?_⟩
          cases hy
          have ha' := get_app (T := [.lst (xs.map fun x => .bl (decide (0 ≤ x)))]) ha
          simp [fIn, getQ_tup ha', flatA, vN, inA, eqA, beq_dec])
      rw [fmap_some] at c2
      have b2 := asBs_B (fun tx : (Nat × Nat) × Int => decide (tx.2 = tx.1.1) || decide (tx.2 = tx.1.2)) (ts.zip xs)
      have e3 : isShB ts xs = (ts.zip xs).all fun tx => decide (tx.2 = tx.1.1) || decide (tx.2 = tx.1.2) := by
        unfold isShB; rw [e2, decide_eq_true (e1.trans hv)]; simp
      have g1 : getL (S ++ [.lst (xs.map fun x => .bl (decide (0 ≤ x)))]) (.ref S.length) = some (xs.map fun x => .bl (decide (0 ≤ x))) := getL_ref get_n0
      have e2' : (xs.map fun x => decide (0 ≤ x)).all id = true := by rw [List.all_map]; exact e2
      have e4 : ((ts.zip xs).map fun tx => decide (tx.2 = (tx.1.1 : Int)) || decide (tx.2 = (tx.1.2 : Int))).all id = isShB ts xs := by rw [List.all_map, e3]; rfl
      refine ⟨[.lst (xs.map fun x => .bl (decide (0 ≤ x))), .lst ((ts.zip xs).map fun tx => .bl (decide (tx.2 = (tx.1.1 : Int)) || decide (tx.2 = (tx.1.2 : Int))))], ?_⟩
      simp only [i_is_sharing, mk2, List.replicate]
      simp [-x_itZip, -x_tgTup, tyB, hq, kit_ll, fLen, getQ_lst hq, getQ_lst hp, hlen', c1, fAll, g1, b1, e2', c2, getL_ref get_n0, b2, e4]
      simp [getL_ref get_n1, b2, e4]
    · have g1 : getL (S ++ [.lst (xs.map fun x => .bl (decide (0 ≤ x)))]) (.ref S.length) = some (xs.map fun x => .bl (decide (0 ≤ x))) := getL_ref get_n0
      have e2f : xs.all (fun x => decide (0 ≤ x)) = false := by simpa using e2
      have e3 : isShB ts xs = false := by unfold isShB; rw [e2f]; simp
      have e2' : (xs.map fun x => decide (0 ≤ x)).all id = false := by rw [List.all_map]; exact e2f
      refine ⟨[.lst (xs.map fun x => .bl (decide (0 ≤ x)))], ?_⟩
      simp only [i_is_sharing, mk2, List.replicate]
      simp [tyB, hq, kit_ll, fLen, getQ_lst hq, getQ_lst hp, hlen', c1, fAll, g1, b1, e2', e3]
  · have hlen' : (fNe (.int xs.length) (.int vs.length) S) = .ok (.bl true) S := by rw [hlen, decide_eq_false e1]; rfl
    have e3 : isShB ts xs = false := by unfold isShB; rw [decide_eq_false (by omega)]; simp
    refine ⟨[], ?_⟩
    simp only [i_is_sharing, mk2, List.replicate]
    simp [tyB, hq, kit_ll, fLen, getQ_lst hq, getQ_lst hp, hlen', e3]
end IL

end
section
set_option linter.all false
set_option maxRecDepth 100000
namespace IL
open PySem L2
theorem GS.isShB {ts : List (Nat × Nat)} {sh : List Nat} (h : GS ts sh) : isShB ts (sh.map fun (x : Nat) => (x : Int)) = true := by
  have hl := Paired.len h
  unfold IL.isShB
  rw [List.length_map, decide_eq_true hl.symm, Bool.true_and, Bool.and_eq_true]
  refine ⟨by simp, ?_⟩
  rw [List.all_eq_true]
  intro tx htx
  obtain ⟨k, hk⟩ := List.getElem?_of_mem htx
  obtain ⟨h1, h2⟩ := zip_get hk
  obtain ⟨x, h3, h4⟩ := map_get h2
  obtain ⟨y, h5, h6⟩ := Paired.get h h1
  rw [h3] at h5; cases h5
  rw [h4]
  rcases h6 with e | e <;> simp [e]
theorem map_vN (sh : List Nat) : sh.map vN = (sh.map fun (x : Nat) => (x : Int)).map .int := by rw [List.map_map]; rfl
theorem check_sharing_ok {S : Sto} {p q : Nat} {vs : List Va} {ts : List (Nat × Nat)} {sh : List Nat} (hp : S[p]? = some (.lst vs)) (ht : Tks S vs ts) (hq : S[q]? = some (LN sh)) (hs : GS ts sh) (hl : ts.length ≤ 100000) :
    ∃ T, i_check_sharing [.ref p, .ref q] S = .ok .non (S ++ T) := by
  have hl2 := Paired.len hs
  unfold LN at hq
  rw [map_vN] at hq
  obtain ⟨T, h⟩ := is_sharing_ok hp ht hq (by rw [List.length_map]; omega)
  rw [hs.isShB] at h
  refine ⟨T, ?_⟩
  simp only [i_check_sharing, mk2, List.replicate]
  simp [h]
/-- how many tasks each of n does -/
def loadsN (n : Nat) (sh : List Nat) : List Nat := (List.range n).map fun p => sh.count p
theorem loadsN_length (n : Nat) (sh : List Nat) : (loadsN n sh).length = n := by unfold loadsN; simp
theorem loadsN_get {n : Nat} {sh : List Nat} {p : Nat} (h : p < n) : (loadsN n sh)[p]? = some (sh.count p) := by unfold loadsN; simp [h]
theorem loadsN_snoc {n : Nat} {sh : List Nat} {p : Nat} (h : p < n) : loadsN n (sh ++ [p]) = (loadsN n sh).set p (sh.count p + 1) := by
  apply List.ext_getElem?
  intro i
  by_cases hi : i < n
  · rw [loadsN_get hi]
    by_cases e : p = i
    · subst e
      rw [List.getElem?_set_self (by rw [loadsN_length]; exact h)]
      simp [List.count_append]
    · rw [List.getElem?_set_ne e, loadsN_get hi, List.count_append]
      have : List.count i [p] = 0 := by rw [List.count_eq_zero]; simp; omega
      rw [this]; simp
  · rw [List.getElem?_eq_none (by rw [loadsN_length]; omega), List.getElem?_eq_none (by rw [List.length_set, loadsN_length]; omega)]
theorem loadsN_nil (n : Nat) : loadsN n [] = List.replicate n 0 := by unfold loadsN; rw [List.eq_replicate_iff]; simp
theorem fMul_rep1 {S : Sto} {p n : Nat} {v : Va} (h : S[p]? = some (.lst [v])) (hn : n ≤ 100000) : fMul (.ref p) (.int n) S = .ok (.ref S.length) (S ++ [.lst (List.replicate n v)]) := by
  have e : (List.replicate n [v]).flatten = List.replicate n v := by
    clear hn
    induction n with
    | zero => rfl
    | succ n ih => rw [List.replicate_succ, List.flatten_cons, ih, List.replicate_succ]; rfl
  simp only [fMul, h]
  rw [if_pos ⟨by omega, by omega, by simp; omega⟩]
  simp [e]
theorem LN_set (xs : List Nat) (k x : Nat) : Ob.lst ((xs.map vN).set k (vN x)) = LN (xs.set k x) := by unfold LN; rw [List.map_set]
theorem vN_get {xs : List Nat} {k x : Nat} (h : xs[k]? = some x) : (xs.map vN)[k]? = some (vN x) := by rw [List.getElem?_map, h]; rfl
theorem fIxL_lst {S : Sto} {p k : Nat} {xs : List Va} {v : Va} (h : S[p]? = some (.lst xs)) (hk : xs[k]? = some v) : fIxL (.ref p) (.int (k : Int)) S = .ok v S := by
  simp [fIxL, getL_ref h, atI_nat' hk]
theorem setL_lst {S : Sto} {p k : Nat} {xs : List Va} {v : Va} (h : S[p]? = some (.lst xs)) (hk : k < xs.length) : setL (.ref p) (.int (k : Int)) v S = .ok () (S.set p (.lst (xs.set k v))) := by
  simp [setL, h, ixN_lt hk]
theorem loads_of_ok {S : Sto} {q n : Nat} {sh : List Nat} (hq : S[q]? = some (LN sh)) (hx : ∀ x ∈ sh, x < n) (hn : n ≤ 1000) : i_loads_of [vN n, .ref q] S = .ok (.ref (S.length + 1)) (S ++ [.lst [.int 0], LN (loadsN n sh)]) := by
  have hq' : ∀ T, (S ++ T)[q]? = some (LN sh) := fun T => get_app hq
  have c0 : fMul (.ref S.length) (vN n) (S ++ [.lst [.int 0]]) = .ok (.ref (S.length + 1)) (S ++ [.lst [.int 0], .lst (List.replicate n (.int 0))]) := by
    have := fMul_rep1 (S := S ++ [.lst [.int 0]]) (p := S.length) (n := n) get_n0 (by omega)
    rw [show vN n = .int n from rfl, this]; simp
  obtain ⟨ρ', S', h1, w, h2, h3⟩ := for_nx (chk := sameAt (S ++ [.lst [.int 0], .lst (List.replicate n (.int 0))]) (.ref q)) (tg := tgName 3) (body := sAugS (iVar 2) (iVar 3) (iC (.int 1)))
    (fun k ρ S' => ∃ w, ρ = [some (vN n), some (.ref q), some (.ref (S.length + 1)), w] ∧ S' = S ++ [.lst [.int 0], LN (loadsN n (sh.take k))]) ((sh.map vN).map .one) [some (vN n), some (.ref q), some (.ref (S.length + 1)), none] (S ++ [.lst [.int 0], .lst (List.replicate n (.int 0))])
    ⟨none, rfl, by rw [List.take_zero, loadsN_nil]; simp [LN, vN]⟩
    (fun j it ρ S' hj ⟨w, e1, e2⟩ => by
      subst e1 e2
      obtain ⟨v, z1, rfl⟩ := map_one_get hj
      obtain ⟨x, z2, rfl⟩ := map_get z1
      have hxn : x < n := hx x (List.mem_of_getElem? z2)
      refine ⟨sameAt_app2 hq, _, _, rfl, [some (vN n), some (.ref q), some (.ref (S.length + 1)), some (vN x)], S ++ [.lst [.int 0], LN (loadsN n (sh.take (j + 1)))], ?_, _, rfl, rfl⟩
      have hl : (S ++ [Ob.lst [Va.int 0], LN (loadsN n (sh.take j))])[S.length + 1]? = some (.lst ((loadsN n (sh.take j)).map vN)) := get_n1
      have g1 := fIxL_lst (k := x) hl (vN_get (loadsN_get hxn))
      have g2 := setL_lst (k := x) (v := vN ((sh.take j).count x + 1)) hl (by rw [List.length_map, loadsN_length]; exact hxn)
      rw [LN_set, ← loadsN_snoc hxn, set_n1] at g2
      have e : sh.take j ++ [x] = sh.take (j + 1) := by rw [List.take_add_one, z2]; rfl
      rw [e] at g2
      have g1' : fIxL (.ref (S.length + 1)) (vN x) (S ++ [Ob.lst [Va.int 0], LN (loadsN n (sh.take j))]) = .ok (.int ((sh.take j).count x : Nat)) (S ++ [Ob.lst [Va.int 0], LN (loadsN n (sh.take j))]) := g1
      have g2' : setL (.ref (S.length + 1)) (vN x) (.int (((sh.take j).count x : Nat) + 1)) (S ++ [Ob.lst [Va.int 0], LN (loadsN n (sh.take j))]) = .ok () (S ++ [Ob.lst [Va.int 0], LN (loadsN n (sh.take (j + 1)))]) := g2
      simp [g1', g2'])
    (fun ρ S' ⟨w, e1, e2⟩ => by subst e2; exact sameAt_app2 hq)
  rw [List.length_map, List.length_map, List.take_length] at h3
  subst h2 h3
  simp only [i_loads_of, mk2, List.replicate]
  simp [c0, getL, hq', LN] at h1 ⊢
  simp [h1]
end IL

end
section
set_option linter.all false
namespace MR
/-! rings: the walk -/
structure W where
  found : List (List Nat)
  way : List Nat
  here : Nat
  met : List Nat
  g : List (List Nat)
def wstep (a : Nat → Nat) (w : W) : W :=
  if a ((w.g.getD w.here []).getLastD 0) ∈ w.met then
    ⟨w.found ++ [(w.way ++ [(w.g.getD w.here []).getLastD 0]).drop (w.met.idxOf (a ((w.g.getD w.here []).getLastD 0)))], (w.way ++ [(w.g.getD w.here []).getLastD 0]).take (w.met.idxOf (a ((w.g.getD w.here []).getLastD 0))),
      a ((w.g.getD w.here []).getLastD 0), w.met.take (w.met.idxOf (a ((w.g.getD w.here []).getLastD 0)) + 1), w.g.set w.here (w.g.getD w.here []).dropLast⟩
  else ⟨w.found, w.way ++ [(w.g.getD w.here []).getLastD 0], a ((w.g.getD w.here []).getLastD 0), w.met ++ [a ((w.g.getD w.here []).getLastD 0)], w.g.set w.here (w.g.getD w.here []).dropLast⟩
def wgo (a : Nat → Nat) : Nat → W → W
  | 0, w => w
  | k + 1, w => if w.g.getD w.here [] ≠ [] ∨ w.way ≠ [] then wgo a k (wstep a w) else w
def b01 (p : Prop) [Decidable p] : Nat := if p then 1 else 0
/-- each one's tasks are theirs -/
def WfG (n : Nat) (s a : Nat → Nat) (g : List (List Nat)) : Prop := g.length = n ∧ (∀ p l, g[p]? = some l → ∀ t ∈ l, s t = p) ∧ ∀ t ∈ g.flatten, a t < n
def ringOk (s a : Nat → Nat) (r : List Nat) : Prop := r ≠ [] ∧ (r.map s).Nodup ∧ r.map a = (r.map s).drop 1 ++ (r.map s).take 1
/-- the walk's facts -/
structure Wi (n : Nat) (s a : Nat → Nat) (p : Nat) (g0 : List (List Nat)) (w : W) : Prop where
  wf : WfG n s a w.g
  pn : p < n
  len : w.met.length = w.way.length + 1
  hd : w.met[0]? = some p
  lst : w.met[w.way.length]? = some w.here
  nd : w.met.Nodup
  sd : w.way.map s = w.met.take w.way.length
  an : w.way.map a = w.met.drop 1
  lt : ∀ q ∈ w.met, q < n
  fd : ∀ r ∈ w.found, ringOk s a r
  pm : (w.found.flatten ++ w.way ++ w.g.flatten).Perm g0.flatten
  bal : ∀ q, w.g.flatten.countP (fun t => s t = q) + b01 (q = p) = w.g.flatten.countP (fun t => a t = q) + b01 (q = w.here)
theorem getD_some {g : List (List Nat)} {p : Nat} {l : List Nat} (h : g[p]? = some l) : g.getD p [] = l := by simp [List.getD, h]
theorem getD_of_lt {g : List (List Nat)} {p : Nat} (h : p < g.length) : g[p]? = some (g.getD p []) := by simp [List.getD, h]
theorem flatten_pop : ∀ {g : List (List Nat)} {p : Nat} {l : List Nat} {x : Nat}, g[p]? = some (l ++ [x]) → g.flatten.Perm (x :: (g.set p l).flatten)
  | [], p, l, x, h => by simp at h
  | m :: g, 0, l, x, h => by
    simp at h; subst h
    simp only [List.set_cons_zero, List.flatten_cons, List.append_assoc]
    exact List.perm_middle
  | m :: g, p + 1, l, x, h => by
    simp only [List.set_cons_succ, List.flatten_cons]
    have := flatten_pop (g := g) (p := p) (l := l) (x := x) (by simpa using h)
    exact (this.append_left m).trans List.perm_middle
theorem WfG.mem {n : Nat} {s a : Nat → Nat} {g : List (List Nat)} (h : WfG n s a g) {t : Nat} (ht : t ∈ g.flatten) : ∃ l, g[s t]? = some l ∧ t ∈ l := by
  rw [List.mem_flatten] at ht
  obtain ⟨l, hl, htl⟩ := ht
  obtain ⟨p, hp⟩ := List.getElem?_of_mem hl
  have := h.2.1 p l hp t htl
  subst this
  exact ⟨l, hp, htl⟩
theorem count_s {n : Nat} {s a : Nat → Nat} {g : List (List Nat)} (h : WfG n s a g) {p : Nat} (hp : p < n) (hne : 0 < g.flatten.countP (fun t => s t = p)) : g.getD p [] ≠ [] := by
  rw [List.countP_pos_iff] at hne
  obtain ⟨t, ht, e⟩ := hne
  obtain ⟨l, hl, htl⟩ := h.mem ht
  have e' : s t = p := by simpa using e
  rw [e'] at hl
  rw [getD_some hl]
  intro z; rw [z] at htl; cases htl
theorem eq_snoc {l : List Nat} (h : l ≠ []) : l = l.dropLast ++ [l.getLastD 0] := by
  have := List.dropLast_concat_getLast h
  rw [← this]
  simp [List.getLastD_eq_getLast?, List.getLast?_eq_some_getLast h]
theorem Wi.ne {n : Nat} {s a : Nat → Nat} {p : Nat} {g0 : List (List Nat)} {w : W} (i : Wi n s a p g0 w) (h : w.g.getD w.here [] ≠ [] ∨ w.way ≠ []) : w.g.getD w.here [] ≠ [] := by
  rcases h with h | h
  · exact h
  have hl : 0 < w.way.length := List.length_pos_iff.mpr h
  have hne : w.here ≠ p := by
    intro e
    have h1 := i.hd; have h2 := i.lst
    rw [e] at h2
    have := (List.getElem?_inj (by rw [i.len]; omega) i.nd).mp (h1.trans h2.symm)
    omega
  have hb := i.bal w.here
  simp only [b01, if_true, hne, if_false] at hb
  have hn : w.here < n := i.lt _ (List.mem_of_getElem? i.lst)
  exact count_s i.wf hn (by omega)
theorem Wi.step {n : Nat} {s a : Nat → Nat} {p : Nat} {g0 : List (List Nat)} {w : W} (i : Wi n s a p g0 w) (h : w.g.getD w.here [] ≠ []) : Wi n s a p g0 (wstep a w) ∧ (wstep a w).g.flatten.length + 1 = w.g.flatten.length := by
  have hn : w.here < n := i.lt _ (List.mem_of_getElem? i.lst)
  have hg : w.g[w.here]? = some ((w.g.getD w.here []).dropLast ++ [(w.g.getD w.here []).getLastD 0]) := by
    rw [← eq_snoc h]; exact getD_of_lt (by rw [i.wf.1]; exact hn)
  have hpop := flatten_pop hg
  generalize hx : (w.g.getD w.here []).getLastD 0 = x at *
  generalize hl : (w.g.getD w.here []).dropLast = l at *
  have hsx : s x = w.here := i.wf.2.1 _ _ hg x (by simp)
  have hxm : x ∈ w.g.flatten := hpop.symm.subset List.mem_cons_self
  have hax : a x < n := i.wf.2.2 x hxm
  have wf' : WfG n s a (w.g.set w.here l) := by
    refine ⟨by rw [List.length_set]; exact i.wf.1, fun q m hq t ht => ?_, fun t ht => i.wf.2.2 t (hpop.symm.subset (List.mem_cons_of_mem _ ht))⟩
    by_cases e : w.here = q
    · subst e
      rw [List.getElem?_set_self (by rw [i.wf.1]; exact hn)] at hq
      cases hq
      exact i.wf.2.1 _ _ hg t (by simp [ht])
    · rw [List.getElem?_set_ne e] at hq
      exact i.wf.2.1 _ _ hq t ht
  have bal' : ∀ q, (w.g.set w.here l).flatten.countP (fun t => s t = q) + b01 (q = p) = (w.g.set w.here l).flatten.countP (fun t => a t = q) + b01 (q = a x) := by
    intro q
    have hb := i.bal q
    rw [hpop.countP_eq, hpop.countP_eq, List.countP_cons, List.countP_cons, hsx] at hb
    have e1 : (q = w.here) = (w.here = q) := propext ⟨Eq.symm, Eq.symm⟩
    have e2 : (q = a x) = (a x = q) := propext ⟨Eq.symm, Eq.symm⟩
    simp only [b01, decide_eq_true_eq, e1, e2] at hb ⊢
    omega
  have nw : (w.way ++ [x]).length = w.met.length := by simp [i.len]
  have sd' : (w.way ++ [x]).map s = w.met := by
    rw [List.map_append, i.sd, List.map_singleton, hsx]
    have e : w.met = w.met.take (w.way.length + 1) := by rw [← i.len, List.take_length]
    conv => rhs; rw [e, List.take_add_one, i.lst]
    rfl
  have an' : (w.way ++ [x]).map a = w.met.drop 1 ++ [a x] := by rw [List.map_append, i.an]; rfl
  unfold wstep
  simp only [hx, hl]
  split
  · rename_i hin
    generalize hf : w.met.idxOf (a x) = f
    have hfl : f < w.met.length := by rw [← hf]; exact List.idxOf_lt_length_of_mem hin
    have hfg : w.met[f]? = some (a x) := by
      rw [List.getElem?_eq_getElem hfl]; congr 1; subst hf; exact List.getElem_idxOf _
    have tl : ((w.way ++ [x]).take f).length = f := by rw [List.length_take, nw]; omega
    refine ⟨⟨wf', i.pn, ?_, ?_, ?_, ?_, ?_, ?_, ?_, ?_, ?_, bal'⟩, ?_⟩
    · simp only [tl, List.length_take]; omega
    · simp only; rw [List.getElem?_take_of_lt (by omega)]; exact i.hd
    · simp only [tl]; rw [List.getElem?_take_of_lt (by omega)]; exact hfg
    · exact i.nd.sublist (List.take_sublist _ _)
    · simp only [tl]
      rw [List.map_take, sd', List.take_take]
      congr 1; omega
    · simp only
      rw [List.map_take, an', List.take_append_of_le_length (by rw [List.length_drop]; omega), List.drop_take]
      congr 1
    · intro q hq; exact i.lt q (List.mem_of_mem_take hq)
    · intro r hr
      simp only [List.mem_append, List.mem_singleton] at hr
      rcases hr with hr | rfl
      · exact i.fd r hr
      · refine ⟨?_, ?_, ?_⟩
        · intro z
          have := congrArg List.length z
          rw [List.length_drop, nw] at this
          simp at this; omega
        · rw [List.map_drop, sd']
          exact i.nd.sublist (List.drop_sublist _ _)
        · rw [List.map_drop, an', List.map_drop, sd', List.drop_drop, List.drop_append_of_le_length (by rw [List.length_drop]; omega), List.drop_drop]
          rw [Nat.add_comm 1 f]
          congr 1
          rw [List.take_one, List.head?_drop, hfg]
          rfl
    · simp only
      have e : (w.way ++ [x]).take f ++ (w.way ++ [x]).drop f = w.way ++ [x] := List.take_append_drop _ _
      refine List.Perm.trans ?_ i.pm
      rw [List.flatten_append]
      simp only [List.flatten_cons, List.flatten_nil, List.append_nil]
      have h1 : (w.found.flatten ++ (w.way ++ [x]).drop f ++ (w.way ++ [x]).take f ++ (w.g.set w.here l).flatten).Perm (w.found.flatten ++ (w.way ++ [x]) ++ (w.g.set w.here l).flatten) := by
        refine List.Perm.append_right _ ?_
        rw [List.append_assoc]
        refine List.Perm.append_left _ ?_
        refine List.perm_append_comm.trans ?_
        rw [e]
      refine h1.trans ?_
      rw [List.append_assoc, List.append_assoc, List.append_assoc]
      refine List.Perm.append_left _ (List.Perm.append_left _ ?_)
      exact hpop.symm
    · have := hpop.length_eq
      simp at this ⊢
      omega
  · rename_i hin
    refine ⟨⟨wf', i.pn, ?_, ?_, ?_, ?_, ?_, ?_, ?_, i.fd, ?_, bal'⟩, ?_⟩
    · simp [i.len]
    · simp only; rw [List.getElem?_append_left (by rw [i.len]; omega)]; exact i.hd
    · simp only [nw, List.getElem?_concat_length]
    · simp only
      rw [List.nodup_append]
      refine ⟨i.nd, by simp, ?_⟩
      intro q hq r hr
      simp at hr
      subst hr
      intro e; subst e; exact hin hq
    · simp only [nw]
      rw [sd', List.take_left']
      rfl
    · simp only
      rw [an', List.drop_append_of_le_length (by rw [i.len]; omega)]
    · intro q hq
      simp only [List.mem_append, List.mem_singleton] at hq
      rcases hq with hq | rfl
      · exact i.lt q hq
      · exact hax
    · simp only
      refine List.Perm.trans ?_ i.pm
      rw [List.append_assoc, List.append_assoc, List.append_assoc]
      refine List.Perm.append_left _ (List.Perm.append_left _ ?_)
      exact hpop.symm
    · have := hpop.length_eq
      simp at this ⊢
      omega
theorem Wi.init {n : Nat} {s a : Nat → Nat} {p : Nat} {g : List (List Nat)} (wf : WfG n s a g) (pn : p < n) (bal : ∀ q, g.flatten.countP (fun t => s t = q) = g.flatten.countP (fun t => a t = q)) : Wi n s a p g ⟨[], [], p, [p], g⟩ := by
  refine ⟨wf, pn, rfl, rfl, rfl, by simp, rfl, rfl, ?_, ?_, ?_, fun q => by rw [bal q]⟩
  · intro q hq; simp at hq; subst hq; exact pn
  · intro r hr; cases hr
  · simp
/-- at its end -/
theorem wgo_end {n : Nat} {s a : Nat → Nat} {p : Nat} {g0 : List (List Nat)} : ∀ (k : Nat) {w : W}, Wi n s a p g0 w → w.g.flatten.length = k → Wi n s a p g0 (wgo a k w) ∧ (wgo a k w).g.getD (wgo a k w).here [] = [] ∧ (wgo a k w).way = []
  | 0, w, i, h => by
    have e : w.g.getD w.here [] = [] := by
      cases q : w.g[w.here]? with
      | none => simp [List.getD, q]
      | some l =>
        rw [getD_some q]
        have := List.mem_of_getElem? q
        cases l with
        | nil => rfl
        | cons x l =>
          have : x ∈ w.g.flatten := List.mem_flatten.mpr ⟨_, this, List.mem_cons_self⟩
          rw [List.length_eq_zero_iff.mp h] at this; cases this
    refine ⟨i, e, ?_⟩
    show w.way = []
    cases q : w.way with
    | nil => rfl
    | cons x l => exact absurd e (i.ne (.inr (by rw [q]; simp)))
  | k + 1, w, i, h => by
    unfold wgo
    split
    · rename_i hc
      obtain ⟨i', hl⟩ := i.step (i.ne hc)
      exact wgo_end k i' (by omega)
    · rename_i hc
      have hc1 : w.g.getD w.here [] = [] := Classical.byContradiction fun z => hc (.inl z)
      have hc2 : w.way = [] := Classical.byContradiction fun z => hc (.inr z)
      exact ⟨i, hc1, hc2⟩
def rfF (a : Nat → Nat) (p : Nat) (g : List (List Nat)) : List (List Nat) × List (List Nat) := ((wgo a g.flatten.length ⟨[], [], p, [p], g⟩).found, (wgo a g.flatten.length ⟨[], [], p, [p], g⟩).g)
def Bal (s a : Nat → Nat) (g : List (List Nat)) : Prop := ∀ q, g.flatten.countP (fun t => s t = q) = g.flatten.countP (fun t => a t = q)
theorem rf_ok {n : Nat} {s a : Nat → Nat} {p : Nat} {g : List (List Nat)} (wf : WfG n s a g) (pn : p < n) (bal : Bal s a g) :
    WfG n s a (rfF a p g).2 ∧ Bal s a (rfF a p g).2 ∧ (rfF a p g).2.getD p [] = [] ∧ (∀ r ∈ (rfF a p g).1, ringOk s a r) ∧ ((rfF a p g).1.flatten ++ (rfF a p g).2.flatten).Perm g.flatten := by
  obtain ⟨i, h1, h2⟩ := wgo_end g.flatten.length (Wi.init wf pn bal) rfl
  have hp : (wgo a g.flatten.length ⟨[], [], p, [p], g⟩).here = p := by
    have e1 := i.lst; have e2 := i.hd
    rw [h2] at e1
    simp only [List.length_nil] at e1
    rw [e2] at e1
    exact (Option.some.inj e1).symm
  refine ⟨i.wf, fun q => ?_, ?_, i.fd, ?_⟩
  · have := i.bal q
    rw [hp] at this
    exact Nat.add_right_cancel this
  · rw [hp] at h1; exact h1
  · have := i.pm
    rw [h2, List.append_nil] at this
    exact this
/-- person after person -/
def rgo (a : Nat → Nat) : List Nat → List (List Nat) × List (List Nat) → List (List Nat) × List (List Nat)
  | [], x => x
  | p :: ps, (f, g) => if g.getD p [] ≠ [] then rgo a ps (f ++ (rfF a p g).1, (rfF a p g).2) else rgo a ps (f, g)
structure Ri (n : Nat) (s a : Nat → Nat) (g0 : List (List Nat)) (x : List (List Nat) × List (List Nat)) : Prop where
  wf : WfG n s a x.2
  bal : Bal s a x.2
  fd : ∀ r ∈ x.1, ringOk s a r
  pm : (x.1.flatten ++ x.2.flatten).Perm g0.flatten
theorem Ri.turn {n : Nat} {s a : Nat → Nat} {g0 : List (List Nat)} {f g : List (List Nat)} {p : Nat} (i : Ri n s a g0 (f, g)) (hp : p < n) : Ri n s a g0 (f ++ (rfF a p g).1, (rfF a p g).2) := by
  obtain ⟨h1, h2, h3, h4, h5⟩ := rf_ok i.wf hp i.bal
  refine ⟨h1, h2, fun r hr => ?_, ?_⟩
  · rcases List.mem_append.mp hr with hr | hr
    · exact i.fd r hr
    · exact h4 r hr
  · show ((f ++ (rfF a p g).1).flatten ++ (rfF a p g).2.flatten).Perm g0.flatten
    rw [List.flatten_append, List.append_assoc]
    exact (List.Perm.append_left _ h5).trans i.pm
theorem WfG.keep {n : Nat} {s a : Nat → Nat} {g g' : List (List Nat)} {q : Nat} (w : WfG n s a g) (w' : WfG n s a g') (h : ∀ t ∈ g'.flatten, t ∈ g.flatten) (e : g.getD q [] = []) : g'.getD q [] = [] := by
  cases z : g'[q]? with
  | none => simp [List.getD, z]
  | some l =>
    rw [getD_some z]
    cases l with
    | nil => rfl
    | cons x l =>
      have hm : x ∈ g'.flatten := List.mem_flatten.mpr ⟨_, List.mem_of_getElem? z, List.mem_cons_self⟩
      have hs := w'.2.1 q _ z x List.mem_cons_self
      obtain ⟨m, hm1, hm2⟩ := w.mem (h x hm)
      rw [hs] at hm1
      rw [getD_some hm1] at e
      rw [e] at hm2; cases hm2
theorem rgo_ok {n : Nat} {s a : Nat → Nat} {g0 : List (List Nat)} : ∀ (ps : List Nat) {x : List (List Nat) × List (List Nat)}, (∀ p ∈ ps, p < n) → Ri n s a g0 x → Ri n s a g0 (rgo a ps x) ∧ (∀ t ∈ (rgo a ps x).2.flatten, t ∈ x.2.flatten) ∧ ∀ p ∈ ps, (rgo a ps x).2.getD p [] = []
  | [], x, _, i => ⟨i, fun _ h => h, fun _ h => by cases h⟩
  | p :: ps, (f, g), hp, i => by
    unfold rgo
    have hps : ∀ q ∈ ps, q < n := fun q hq => hp q (List.mem_cons_of_mem _ hq)
    split
    · have i' := i.turn (p := p) (hp p List.mem_cons_self)
      obtain ⟨j, h1, h2⟩ := rgo_ok ps hps i'
      have sub : ∀ t ∈ (rfF a p g).2.flatten, t ∈ g.flatten := fun t ht => (rf_ok i.wf (hp p List.mem_cons_self) i.bal).2.2.2.2.subset (List.mem_append_right _ ht)
      refine ⟨j, fun t ht => sub t (h1 t ht), fun q hq => ?_⟩
      rcases List.mem_cons.mp hq with rfl | hq
      · exact WfG.keep i'.wf j.wf h1 (rf_ok i.wf (hp _ List.mem_cons_self) i.bal).2.2.1
      · exact h2 q hq
    · rename_i hc
      obtain ⟨j, h1, h2⟩ := rgo_ok ps hps i
      refine ⟨j, h1, fun q hq => ?_⟩
      rcases List.mem_cons.mp hq with rfl | hq
      · exact WfG.keep i.wf j.wf h1 (Classical.byContradiction fun z => hc z)
      · exact h2 q hq
/-! what each gives -/
def giv (n m : Nat) (s a : Nat → Nat) : List (List Nat) := (List.range n).map fun p => (List.range m).filter fun t => decide (s t = p ∧ a t ≠ p)
def ringsF (n m : Nat) (s a : Nat → Nat) : List (List Nat) := (rgo a (List.range n) ([], giv n m s a)).1
theorem giv_get {n m : Nat} {s a : Nat → Nat} {p : Nat} (h : p < n) : (giv n m s a)[p]? = some ((List.range m).filter fun t => decide (s t = p ∧ a t ≠ p)) := by
  unfold giv; simp [h]
theorem giv_len {n m : Nat} {s a : Nat → Nat} : (giv n m s a).length = n := by unfold giv; simp
/-- the tasks that differ, by their doers, are all that differ -/
theorem giv_flat : ∀ (n m : Nat) (s a : Nat → Nat), (giv n m s a).flatten.Perm ((List.range m).filter fun t => decide (s t < n ∧ a t ≠ s t))
  | 0, m, s, a => by
    have : (List.filter (fun t => decide (s t < 0 ∧ a t ≠ s t)) (List.range m)) = [] := by
      rw [List.filter_eq_nil_iff]; intro t _; simp
    rw [this]; exact List.Perm.refl _
  | n + 1, m, s, a => by
    have e : (giv (n + 1) m s a).flatten = (giv n m s a).flatten ++ (List.range m).filter fun t => decide (s t = n ∧ a t ≠ n) := by
      unfold giv; rw [List.range_succ, List.map_append, List.flatten_append]; simp
    rw [e]
    refine ((giv_flat n m s a).append_right _).trans ?_
    have key : ∀ l : List Nat, (l.filter (fun t => decide (s t < n ∧ a t ≠ s t)) ++ l.filter fun t => decide (s t = n ∧ a t ≠ n)).Perm (l.filter fun t => decide (s t < n + 1 ∧ a t ≠ s t)) := by
      intro l
      induction l with
      | nil => exact List.Perm.refl _
      | cons t l ih =>
        rw [List.filter_cons, List.filter_cons, List.filter_cons]
        by_cases h1 : s t < n
        · have h2 : ¬ (s t = n ∧ a t ≠ n) := by omega
          by_cases h3 : a t ≠ s t
          · have h4 : s t < n + 1 ∧ a t ≠ s t := ⟨by omega, h3⟩
            simp only [h1, h2, h3, h4, decide_true, decide_false, if_true, and_self, List.cons_append, ne_eq, not_false_eq_true]
            exact ih.cons t
          · have h4 : ¬ (s t < n + 1 ∧ a t ≠ s t) := fun z => h3 z.2
            have h5 : ¬ (s t < n ∧ a t ≠ s t) := fun z => h3 z.2
            rw [decide_eq_false h2, decide_eq_false h4, decide_eq_false h5]
            exact ih
        · have h5 : ¬ (s t < n ∧ a t ≠ s t) := fun z => h1 z.1
          rw [decide_eq_false h5]
          by_cases h6 : s t = n ∧ a t ≠ n
          · have h7 : s t < n + 1 ∧ a t ≠ s t := ⟨by omega, by rw [h6.1]; exact h6.2⟩
            rw [decide_eq_true h6, decide_eq_true h7]
            exact List.perm_middle.trans (ih.cons t)
          · have h7 : ¬ (s t < n + 1 ∧ a t ≠ s t) := by
              rintro ⟨z1, z2⟩
              exact h6 ⟨by omega, by have : s t = n := by omega
                                     rw [this] at z2; exact z2⟩
            rw [decide_eq_false h6, decide_eq_false h7]
            exact ih
    exact key _
theorem giv_wf {n m : Nat} {s a : Nat → Nat} (ha : ∀ t < m, a t < n) : WfG n s a (giv n m s a) := by
  refine ⟨giv_len, fun p l hp t ht => ?_, fun t ht => ?_⟩
  · have hpn : p < n := by
      have := (List.getElem?_eq_some_iff.mp hp).1
      rwa [giv_len] at this
    rw [giv_get hpn] at hp
    cases hp
    have := (List.mem_filter.mp ht).2
    simp at this
    exact this.1
  · have := (giv_flat n m s a).subset ht
    have := (List.mem_filter.mp this).1
    exact ha t (List.mem_range.mp this)
theorem countP_split (s a : Nat → Nat) (q : Nat) (l : List Nat) : (l.filter fun t => decide (a t ≠ s t)).countP (fun t => s t = q) + l.countP (fun t => a t = q) = (l.filter fun t => decide (a t ≠ s t)).countP (fun t => a t = q) + l.countP (fun t => s t = q) := by
  induction l with
  | nil => rfl
  | cons t l ih =>
    rw [List.filter_cons]
    by_cases h : a t = s t
    · have h2 : ¬ (a t ≠ s t) := fun z => z h
      rw [decide_eq_false h2]
      simp only [Bool.false_eq_true, if_false, List.countP_cons, h]
      omega
    · have h2 : a t ≠ s t := h
      rw [decide_eq_true h2]
      simp only [if_true, List.countP_cons]
      omega
theorem giv_bal {n m : Nat} {s a : Nat → Nat} (hs : ∀ t < m, s t < n) (hb : ∀ q, (List.range m).countP (fun t => s t = q) = (List.range m).countP (fun t => a t = q)) : Bal s a (giv n m s a) := by
  intro q
  have hp := giv_flat n m s a
  have e : ((List.range m).filter fun t => decide (s t < n ∧ a t ≠ s t)) = (List.range m).filter fun t => decide (a t ≠ s t) := by
    apply List.filter_congr
    intro t ht
    have := hs t (List.mem_range.mp ht)
    simp [this]
  rw [e] at hp
  rw [hp.countP_eq, hp.countP_eq]
  have := countP_split s a q (List.range m)
  rw [hb q] at this
  omega
/-- rings are told -/
theorem rings_ok {n m : Nat} {s a : Nat → Nat} (hs : ∀ t < m, s t < n) (ha : ∀ t < m, a t < n) (hb : ∀ q, (List.range m).countP (fun t => s t = q) = (List.range m).countP (fun t => a t = q)) :
    (∀ r ∈ ringsF n m s a, ringOk s a r) ∧ (ringsF n m s a).flatten.Perm ((List.range m).filter fun t => decide (s t ≠ a t)) := by
  have i0 : Ri n s a (giv n m s a) ([], giv n m s a) := ⟨giv_wf ha, giv_bal hs hb, fun r hr => (by cases hr), by simp⟩
  obtain ⟨j, h1, h2⟩ := rgo_ok (List.range n) (fun p hp => List.mem_range.mp hp) i0
  have e : (rgo a (List.range n) ([], giv n m s a)).2.flatten = [] := by
    rw [List.flatten_eq_nil_iff]
    intro l hl
    obtain ⟨q, hq⟩ := List.getElem?_of_mem hl
    have hqn : q < n := by
      have := (List.getElem?_eq_some_iff.mp hq).1
      rwa [j.wf.1] at this
    have := h2 q (List.mem_range.mpr hqn)
    rwa [getD_some hq] at this
  refine ⟨j.fd, ?_⟩
  have hp := j.pm
  rw [e, List.append_nil] at hp
  refine hp.trans ((giv_flat n m s a).trans ?_)
  have e2 : ((List.range m).filter fun t => decide (s t < n ∧ a t ≠ s t)) = (List.range m).filter fun t => decide (s t ≠ a t) := by
    apply List.filter_congr
    intro t ht
    have := hs t (List.mem_range.mp ht)
    simp [this, eq_comm]
  rw [e2]
end MR

end
section
set_option linter.all false
set_option maxRecDepth 100000
set_option maxHeartbeats 1000000
namespace IL
open PySem L2 MR
theorem gs {S : Sto} {i j : Nat} {o : Ob} (h : i ≠ j) : (S.set i o)[j]? = S[j]? := List.getElem?_set_ne h
theorem gself {S : Sto} {i : Nat} {o o' : Ob} (h : S[i]? = some o') : (S.set i o)[i]? = some o := List.getElem?_set_self (List.getElem?_eq_some_iff.mp h).1
theorem glt {S : Sto} {i : Nat} {o : Ob} (h : S[i]? = some o) : i < S.length := (List.getElem?_eq_some_iff.mp h).1
theorem gapp {S T : Sto} {j : Nat} (h : j < S.length) : (S ++ T)[j]? = S[j]? := List.getElem?_append_left h
theorem gnew {S T : Sto} {o : Ob} : (S ++ o :: T)[S.length]? = some o := get_n0
structure RF (S0 : Sto) (n gb : Nat) (w : MR.W) (wa ma : Nat) (fr : List Nat) (S : Sto) : Prop where
  keep : ∀ a, a < S0.length → (a < gb ∨ gb + n ≤ a) → S[a]? = S0[a]?
  giv : ∀ i l, w.g[i]? = some l → S[gb + i]? = some (LN l)
  fnd : S[S0.length]? = some (.lst (fr.map .ref))
  wy : S[wa]? = some (LN w.way)
  mt : S[ma]? = some (LN w.met)
  wal : S0.length < wa
  mal : S0.length < ma
  wm : wa ≠ ma
  nd : fr.Nodup
  rg : Paired (fun r l => S0.length < r ∧ r ≠ wa ∧ r ≠ ma ∧ S[r]? = some (LN l)) fr w.found
theorem RF.app {S0 : Sto} {n gb : Nat} {w : MR.W} {wa ma : Nat} {fr : List Nat} {S T : Sto} (h : RF S0 n gb w wa ma fr S) : RF S0 n gb w wa ma fr (S ++ T) :=
  ⟨fun a h1 h2 => by rw [gapp (by have := glt h.fnd; omega)]; exact h.keep a h1 h2, fun i l e => get_app (h.giv i l e), get_app h.fnd, get_app h.wy, get_app h.mt, h.wal, h.mal, h.wm, h.nd, Paired.imp (fun r l ⟨a, b, c, d⟩ => ⟨a, b, c, get_app d⟩) h.rg⟩
theorem fNe_nil {S : Sto} {p : Nat} {xs : List Nat} {q : Nat} (h : S[p]? = some (LN xs)) (hq : S[q]? = some (.lst [])) : fNe (.ref p) (.ref q) S = .ok (.bl (!decide (xs = []))) S := by
  unfold LN at h
  simp only [fNe, toP, h, hq, toP_N, List.map_nil, allO, PyData.eqv]
  have := eqv_N xs []
  rw [List.map_nil] at this
  rw [this]
theorem mPop_LN {S : Sto} {p : Nat} {l : List Nat} {x : Nat} (h : S[p]? = some (LN (l ++ [x]))) : mPop (.ref p) [] S = .ok (vN x) (S.set p (LN l)) := by
  unfold LN at h ⊢
  simp [mPop, h]
theorem mAppend_LN {S : Sto} {p : Nat} {l : List Nat} {x : Nat} (h : S[p]? = some (LN l)) (hl : l.length < 100000) : mAppend (.ref p) [vN x] S = .ok .non (S.set p (LN (l ++ [x]))) := by
  unfold LN at h ⊢
  simp [mAppend, h, hl]
theorem inA_N (x : Nat) (l : List Nat) : inA (vN x) (l.map vN) = decide (x ∈ l) := by
  induction l with
  | nil => simp [inA]
  | cons y l ih =>
    unfold inA at ih ⊢
    rw [List.map_cons, List.any_cons, ih]
    have : eqA (vN y) (vN x) = decide (x = y) := by
      show ((y : Int) == (x : Int)) = _
      by_cases h : x = y
      · subst h; simp
      · rw [decide_eq_false h]; simp; omega
    rw [this]
    by_cases h1 : x = y <;> by_cases h2 : x ∈ l <;> simp [h1, h2]
theorem flat_N (l : List Nat) : (l.map vN).all flatA = true := by
  induction l with
  | nil => rfl
  | cons y l ih => rw [List.map_cons, List.all_cons, ih]; rfl
theorem fIn_LN {S : Sto} {p : Nat} {l : List Nat} {x : Nat} (h : S[p]? = some (LN l)) : fIn false (vN x) (.ref p) S = .ok (.bl (decide (x ∈ l))) S := by
  unfold LN at h
  simp only [fIn, getQ_lst h]
  rw [if_pos ⟨rfl, flat_N l⟩]
  simp [inA_N]
theorem fNotIn_LN {S : Sto} {p : Nat} {l : List Nat} {x : Nat} (h : S[p]? = some (LN l)) : fIn true (vN x) (.ref p) S = .ok (.bl (!decide (x ∈ l))) S := by
  unfold LN at h
  simp only [fIn, getQ_lst h]
  rw [if_pos ⟨rfl, flat_N l⟩]
  simp [inA_N]
theorem findIdx_N {l : List Nat} {x : Nat} (h : x ∈ l) : (l.map vN).findIdx? (fun z => eqA z (vN x)) = some (l.idxOf x) := by
  induction l with
  | nil => cases h
  | cons y l ih =>
    have e : eqA (vN y) (vN x) = (y == x) := by
      show ((y : Int) == (x : Int)) = _
      by_cases h : y = x
      · subst h; simp
      · rw [beq_eq_false_iff_ne.mpr h]; simp; omega
    rw [List.map_cons, List.findIdx?_cons, e, List.idxOf_cons]
    by_cases hy : y = x
    · subst hy; simp
    · rw [beq_eq_false_iff_ne.mpr hy]
      rw [ih (by rcases List.mem_cons.mp h with z | z; exact absurd z.symm hy; exact z)]
      simp
theorem mIndex_LN {S : Sto} {p : Nat} {l : List Nat} {x : Nat} (h : S[p]? = some (LN l)) (hx : x ∈ l) : mIndex (.ref p) [vN x] S = .ok (vN (l.idxOf x)) S := by
  unfold LN at h
  simp only [mIndex, getL_ref h]
  rw [if_pos ⟨rfl, flat_N l⟩, findIdx_N hx]
  rfl
theorem cut_from {α : Type} (xs : List α) (k : Nat) : cut xs (some (k : Int)) none = xs.drop k := by
  unfold cut
  rw [HT.sIx_none, HT.sIx_nat]
  by_cases h : k ≤ xs.length
  · rw [Nat.min_eq_left h, List.take_of_length_le (by rw [List.length_drop]; omega)]
  · rw [Nat.min_eq_right (by omega), List.drop_of_length_le (Nat.le_refl _), List.drop_of_length_le (by omega)]
    simp
theorem cut_to {α : Type} (xs : List α) (k : Nat) : cut xs none (some (k : Int)) = xs.take k := by
  unfold cut
  rw [HT.sIx_none, HT.sIx_nat, List.drop_zero, Nat.sub_zero]
  by_cases h : k ≤ xs.length
  · rw [Nat.min_eq_left h]
  · rw [Nat.min_eq_right (by omega), List.take_of_length_le (Nat.le_refl _), List.take_of_length_le (by omega)]
theorem getL_LN {S : Sto} {p : Nat} {l : List Nat} (h : S[p]? = some (LN l)) : getL S (.ref p) = some (l.map vN) := getL_ref h
theorem cutf_N (l : List Nat) (k : Nat) : Ob.lst (cut (l.map vN) (some (k : Int)) none) = LN (l.drop k) := by rw [cut_from, ← List.map_drop]; rfl
theorem cutt_N (l : List Nat) (k : Nat) : Ob.lst (cut (l.map vN) none (some (k : Int))) = LN (l.take k) := by rw [cut_to, ← List.map_take]; rfl
/-- the def's while, its test -/
noncomputable abbrev rfC : IT := (IL.iOr (iB (iOp fNe (iOp fIx (iVar 1) (iVar 5)) (iLst iNil))) (iB (iOp fNe (iVar 4) (iLst iNil))))
noncomputable abbrev rfB : IS := (sSeq (sAsg (iBM mPop (iOp fIx (iVar 1) (iVar 5)) iNil) (tgName 7))
  (sSeq (sExpr (iBM mAppend (iVar 4) (iCons (iVar 7) iNil)))
  (sSeq (sAsg (iOp fIx (iVar 2) (iVar 7)) (tgName 5))
  (sIf (iB (iOp (fIn false) (iVar 5) (iVar 6))) (sSeq (sAsg (iBM mIndex (iVar 6) (iCons (iVar 5) iNil)) (tgName 8))
  (sSeq (sExpr (iBM mAppend (iVar 3) (iCons (iSl (iVar 4) (iPart (iVar 8)) iNoPart) iNil)))
  (sSeq (sAsg (iSl (iVar 4) iNoPart (iPart (iVar 8))) (tgName 4))
  (sAsg (iSl (iVar 6) iNoPart (iPart (iOp fAdd (iVar 8) (iC (.int 1))))) (tgName 6))))) (sExpr (iBM mAppend (iVar 6) (iCons (iVar 5) iNil)))))))
section
variable {S0 : Sto} {n gb gp aa p : Nat} {an : List Nat} {m : Nat}
theorem rf_test {w : MR.W} {wa ma : Nat} {fr : List Nat} {S : Sto} {x7 x8 : Option Va} (h : RF S0 n gb w wa ma fr S) (hg : S0[gp]? = some (.lst ((List.range n).map fun i => .ref (gb + i)))) (hgp : gb + n ≤ gp) (hw : w.here < n) (hl : w.g.length = n) :
    ∃ T, rfC [some (vN p), some (.ref gp), some (.ref aa), some (.ref S0.length), some (.ref wa), some (vN w.here), some (.ref ma), x7, x8] S = .ok (decide (w.g.getD w.here [] ≠ [] ∨ w.way ≠ [])) (S ++ T) := by
  have gg : S[gp]? = some (.lst ((List.range n).map fun i => .ref (gb + i))) := by rw [h.keep gp (glt hg) (.inr hgp)]; exact hg
  have gh : S[gb + w.here]? = some (LN (w.g.getD w.here [])) := h.giv _ _ (getD_of_lt (by omega))
  have c1 : fIx (.ref gp) (vN w.here) S = .ok (.ref (gb + w.here)) S := fIx_lst gg (by simp [hw])
  have c2 := fNe_nil (get_app (T := [.lst []]) gh) (get_n0 (T := []))
  have c3 := fNe_nil (get_app (T := [.lst [], .lst []]) h.wy) (get_n1 (S := S) (T := []) (a := .lst []))
  generalize w.g.getD w.here [] = G at *
  by_cases e : G = []
  · refine ⟨[.lst [], .lst []], ?_⟩
    rw [e] at c2
    simp [c1, c2, e, c3]
  · refine ⟨[.lst []], ?_⟩
    simp [c1, c2, e]
theorem wstep_pos {a : Nat → Nat} {w : MR.W} {l : List Nat} {x : Nat} (hG : w.g.getD w.here [] = l ++ [x]) (h : a x ∈ w.met) : wstep a w = ⟨w.found ++ [(w.way ++ [x]).drop (w.met.idxOf (a x))], (w.way ++ [x]).take (w.met.idxOf (a x)), a x, w.met.take (w.met.idxOf (a x) + 1), w.g.set w.here l⟩ := by
  have e1 : (l ++ [x]).getLastD 0 = x := by simp
  have e2 : (l ++ [x]).dropLast = l := by simp
  unfold wstep
  rw [hG, e1, e2, if_pos h]
theorem wstep_neg {a : Nat → Nat} {w : MR.W} {l : List Nat} {x : Nat} (hG : w.g.getD w.here [] = l ++ [x]) (h : a x ∉ w.met) : wstep a w = ⟨w.found, w.way ++ [x], a x, w.met ++ [a x], w.g.set w.here l⟩ := by
  have e1 : (l ++ [x]).getLastD 0 = x := by simp
  have e2 : (l ++ [x]).dropLast = l := by simp
  unfold wstep
  rw [hG, e1, e2, if_neg h]
theorem LN_lst (l : List Nat) : LN l = .lst (l.map vN) := rfl
theorem rf_step {w : MR.W} {wa ma : Nat} {fr : List Nat} {S : Sto} {x7 x8 : Option Va} (h : RF S0 n gb w wa ma fr S) (hg : S0[gp]? = some (.lst ((List.range n).map fun i => .ref (gb + i)))) (hgp : gb + n ≤ gp) (hw : w.here < n) (hl : w.g.length = n)
    (ha : S0[aa]? = some (LN an)) (hab : aa < gb ∨ gb + n ≤ aa) (hne : w.g.getD w.here [] ≠ []) (hx : ∀ x ∈ w.g.getD w.here [], an[x]? = some (an.getD x 0)) (lw : w.way.length < 1000) (lm : w.met.length < 1000) (lf : fr.length < 1000) :
    ∃ wa' ma' fr' x7' x8' S', rfB [some (vN p), some (.ref gp), some (.ref aa), some (.ref S0.length), some (.ref wa), some (vN w.here), some (.ref ma), x7, x8] S =
      .nx [some (vN p), some (.ref gp), some (.ref aa), some (.ref S0.length), some (.ref wa'), some (vN (wstep (fun t => an.getD t 0) w).here), some (.ref ma'), x7', x8'] S' ∧ RF S0 n gb (wstep (fun t => an.getD t 0) w) wa' ma' fr' S' := by
  have hN := glt hg
  have gg : S[gp]? = some (.lst ((List.range n).map fun i => .ref (gb + i))) := by rw [h.keep gp (glt hg) (.inr hgp)]; exact hg
  have gh : S[gb + w.here]? = some (LN (w.g.getD w.here [])) := h.giv _ _ (getD_of_lt (by omega))
  have c1 : fIx (.ref gp) (vN w.here) S = .ok (.ref (gb + w.here)) S := fIx_lst gg (by simp [hw])
  have hsn := eq_snoc hne
  have hxm := hx ((w.g.getD w.here []).getLastD 0) (by rw [hsn]; simp)
  obtain ⟨x, hX⟩ : ∃ x, x = (w.g.getD w.here []).getLastD 0 := ⟨_, rfl⟩
  obtain ⟨l, hL⟩ : ∃ l, l = (w.g.getD w.here []).dropLast := ⟨_, rfl⟩
  rw [← hX, ← hL] at hsn
  rw [← hX] at hxm
  rw [hsn] at gh
  have cp := mPop_LN gh
  have g1 : (S.set (gb + w.here) (LN l))[wa]? = some (LN w.way) := by rw [gs (by have := h.wal; omega)]; exact h.wy
  have ca := mAppend_LN (x := x) g1 (by omega)
  have aA : ((S.set (gb + w.here) (LN l)).set wa (LN (w.way ++ [x])))[aa]? = some (LN an) := by
    have := glt ha; have := h.wal
    rw [gs (by omega), gs (by omega), h.keep aa (by omega) hab]; exact ha
  have ci : fIx (.ref aa) (vN x) ((S.set (gb + w.here) (LN l)).set wa (LN (w.way ++ [x]))) = .ok (vN (an.getD x 0)) ((S.set (gb + w.here) (LN l)).set wa (LN (w.way ++ [x]))) := fIx_lst aA (vN_get hxm)
  obtain ⟨q, hq⟩ : ∃ q, q = an.getD x 0 := ⟨_, rfl⟩
  rw [← hq] at hxm ci
  have gm : ((S.set (gb + w.here) (LN l)).set wa (LN (w.way ++ [x])))[ma]? = some (LN w.met) := by
    have := h.mal
    rw [gs h.wm, gs (by omega)]; exact h.mt
  have cn := fIn_LN (x := q) gm
  have lst1 : getL S (.ref (gb + w.here)) = some ((l ++ [x]).map vN) := getL_ref gh
  have lst2 : getL (S.set (gb + w.here) (LN l)) (.ref wa) = some (w.way.map vN) := getL_ref g1
  have lst3 := getL_LN gm
  have f0 : ((S.set (gb + w.here) (LN l)).set wa (LN (w.way ++ [x])))[S0.length]? = some (.lst (fr.map .ref)) := by
    have := h.wal
    rw [gs (by omega), gs (by omega)]; exact h.fnd
  have w0 : ((S.set (gb + w.here) (LN l)).set wa (LN (w.way ++ [x])))[wa]? = some (LN (w.way ++ [x])) := gself g1
  -- what stays
  have base : ∀ a, a ≠ gb + w.here → a ≠ wa → ((S.set (gb + w.here) (LN l)).set wa (LN (w.way ++ [x])))[a]? = S[a]? := fun a h1 h2 => by rw [gs (Ne.symm h2), gs (Ne.symm h1)]
  have giv' : ∀ i l', (w.g.set w.here l)[i]? = some l' → ((S.set (gb + w.here) (LN l)).set wa (LN (w.way ++ [x])))[gb + i]? = some (LN l') := fun i l' e => by
    have hi : i < n := by
      have := (List.getElem?_eq_some_iff.mp e).1
      rwa [List.length_set, hl] at this
    have := h.wal
    rw [gs (by omega)]
    by_cases hi2 : w.here = i
    · subst hi2
      rw [List.getElem?_set_self (by omega)] at e
      cases e
      exact gself gh
    · rw [List.getElem?_set_ne hi2] at e
      rw [gs (by omega)]
      exact h.giv i l' e
  generalize hS2 : (S.set (gb + w.here) (LN l)).set wa (LN (w.way ++ [x])) = S2 at *
  have hlen : S2.length = S.length := by rw [← hS2]; simp
  have hwa := glt h.wy
  have hma := glt h.mt
  by_cases hin : q ∈ w.met
  · rw [decide_eq_true hin] at cn
    have cx := mIndex_LN gm hin
    generalize hf : w.met.idxOf q = f at *
    have cap : mAppend (.ref S0.length) [.ref S2.length] (S2 ++ [LN ((w.way ++ [x]).drop f)]) = .ok .non ((S2 ++ [LN ((w.way ++ [x]).drop f)]).set S0.length (.lst ((fr ++ [S2.length]).map .ref))) := by
      simp only [mAppend, get_app (T := [LN ((w.way ++ [x]).drop f)]) f0]
      rw [if_pos (by simp; omega)]
      simp
    have f0l := glt f0
    have eS : (S2 ++ [LN ((w.way ++ [x]).drop f)]).set S0.length (.lst ((fr ++ [S2.length]).map .ref)) = S2.set S0.length (.lst ((fr ++ [S2.length]).map .ref)) ++ [LN ((w.way ++ [x]).drop f)] := by rw [List.set_append_left _ _ f0l]
    rw [eS] at cap
    generalize hS3 : S2.set S0.length (.lst ((fr ++ [S2.length]).map .ref)) = S3 at *
    have hlen3 : S3.length = S.length := by rw [← hS3]; simp [hlen]
    rw [hlen] at cap
    have b3 : ∀ a, a ≠ S0.length → S3[a]? = S2[a]? := fun a h1 => by rw [← hS3]; exact gs (Ne.symm h1)
    have w3 : S3[wa]? = some (LN (w.way ++ [x])) := by rw [b3 wa (by have := h.wal; omega)]; exact w0
    have m3 : S3[ma]? = some (LN w.met) := by rw [b3 ma (by have := h.mal; omega)]; exact gm
    rw [wstep_pos (a := fun t => an.getD t 0) hsn (by rw [← hq]; exact hin)]
    simp only [← hq, hf]
    refine ⟨S.length + 1, S.length + 2, fr ++ [S.length], some (vN x), some (vN f), S3 ++ [LN ((w.way ++ [x]).drop f), LN ((w.way ++ [x]).take f), LN (w.met.take (f + 1))], ?_, ?_⟩
    · skip
      have c5 : getL (S3 ++ [LN ((w.way ++ [x]).drop f)]) (.ref wa) = some ((w.way ++ [x]).map vN) := getL_ref (get_app w3)
      have c6 : getL (S3 ++ [LN ((w.way ++ [x]).drop f), LN ((w.way ++ [x]).take f)]) (.ref ma) = some (w.met.map vN) := getL_ref (get_app m3)
      have c7 : getL S2 (.ref wa) = some ((w.way ++ [x]).map vN) := getL_ref w0
      have c8 : getL S2 (.ref S0.length) = some (fr.map .ref) := getL_ref f0
      have e9 : ((f : Int) + 1) = ((f + 1 : Nat) : Int) := by omega
      have vf : vN f = Va.int (f : Int) := rfl
      simp only [x_seq, x_asg, x_bm, x_op, x_var, List.getElem?_cons_succ, List.getElem?_cons_zero, R.bind_ok, c1, lst1, x_nil, cp, R.toO_ok, x_tgName, List.set, O.seq_nx, x_expr, lst2, x_cons, ca, hS2, ci, x_sif, x_B, cn, x_asB, if_true, lst3, cx, c8, x_sl, x_part, vf, x_noPart, c7, cutf_N, cap, c5, cutt_N, x_c, x_add, e9, List.append_assoc, List.cons_append, List.nil_append, c6, hlen3, hlen, List.length_append, List.length_cons, List.length_nil]
    · have r3 : ∀ r l', S0.length < r → r ≠ wa → r ≠ ma → S[r]? = some (LN l') → S3[r]? = some (LN l') := fun r l' h1 h2 h3 h4 => by
        rw [b3 r (by omega), base r (by omega) h2]; exact h4
      refine ⟨fun a h1 h2 => ?_, fun i l' e => ?_, ?_, ?_, ?_, by have := h.wal; omega, by have := h.wal; omega, by omega, ?_, ?_⟩
      · have := h.wal
        rw [gapp (by omega), b3 a (by omega), base a (by omega) (by omega)]; exact h.keep a h1 h2
      · have hi : i < n := by
          have := (List.getElem?_eq_some_iff.mp e).1
          simp only [List.length_set, hl] at this; exact this
        refine get_app ?_
        rw [b3 _ (by omega)]; exact giv' i l' e
      · refine get_app ?_
        rw [← hS3, hlen]
        exact gself f0
      · rw [← hlen3]; exact get_n1
      · rw [← hlen3]; exact get_n2
      · rw [List.nodup_append]
        refine ⟨h.nd, by simp, fun a ha b hb => ?_⟩
        rw [List.mem_singleton] at hb
        obtain ⟨r, _, _, _, _, h4⟩ := Paired.mem h.rg ha
        have := glt h4
        omega
      · refine Paired.append ?_ (.cons ⟨by have := h.wal; omega, by omega, by omega, ?_⟩ .nil)
        · refine Paired.imp (fun r l' ⟨h1, h2, h3, h4⟩ => ⟨h1, ?_, ?_, get_app (r3 r l' h1 h2 h3 h4)⟩) h.rg
          · have := glt h4; omega
          · have := glt h4; omega
        · rw [← hlen3]; exact get_n0
  · rw [decide_eq_false hin] at cn
    have cap := mAppend_LN (x := q) gm (by omega)
    rw [wstep_neg (a := fun t => an.getD t 0) hsn (by rw [← hq]; exact hin)]
    simp only [← hq]
    refine ⟨wa, ma, fr, some (vN x), x8, S2.set ma (LN (w.met ++ [q])), ?_, ?_⟩
    · simp only [x_seq, x_asg, x_bm, x_op, x_var, List.getElem?_cons_succ, List.getElem?_cons_zero, R.bind_ok, c1, lst1, x_nil, cp, R.toO_ok, x_tgName, List.set, O.seq_nx, x_expr, lst2, x_cons, ca, hS2, ci, x_sif, x_B, cn, x_asB, Bool.false_eq_true, if_false, lst3, cap]
    · have b4 : ∀ a, a ≠ ma → (S2.set ma (LN (w.met ++ [q])))[a]? = S2[a]? := fun a h1 => gs (Ne.symm h1)
      refine ⟨fun a h1 h2 => ?_, fun i l' e => ?_, ?_, ?_, ?_, h.wal, h.mal, h.wm, h.nd, ?_⟩
      · have := h.wal; have := h.mal
        rw [b4 a (by omega), base a (by omega) (by omega)]; exact h.keep a h1 h2
      · have hi : i < n := by
          have := (List.getElem?_eq_some_iff.mp e).1
          simp only [List.length_set, hl] at this; exact this
        have := h.mal
        rw [b4 _ (by omega)]; exact giv' i l' e
      · have := h.mal
        rw [b4 _ (by omega)]; exact f0
      · rw [b4 _ h.wm]; exact w0
      · exact gself gm
      · refine Paired.imp (fun r l' ⟨h1, h2, h3, h4⟩ => ⟨h1, h2, h3, ?_⟩) h.rg
        rw [b4 _ h3, base r (by omega) h2]; exact h4
theorem len_le_flat {s a : Nat → Nat} : ∀ {f : List (List Nat)}, (∀ r ∈ f, ringOk s a r) → f.length ≤ f.flatten.length
  | [], _ => Nat.le_refl _
  | r :: f, h => by
    have h1 := len_le_flat (f := f) fun r' h' => h r' (List.mem_cons_of_mem _ h')
    have h2 := (h r List.mem_cons_self).1
    have h3 : 0 < r.length := List.length_pos_iff.mpr h2
    rw [List.flatten_cons, List.length_cons, List.length_append]; omega
theorem wi_sizes {n : Nat} {s a : Nat → Nat} {p : Nat} {g0 : List (List Nat)} {w : MR.W} (i : Wi n s a p g0 w) (h : g0.flatten.length ≤ 900) : w.way.length < 1000 ∧ w.met.length < 1000 ∧ w.found.length < 1000 := by
  have := i.pm.length_eq
  simp only [List.length_append] at this
  have h2 := len_le_flat i.fd
  have := i.len
  omega
theorem rings_from_ok {s : Nat → Nat} {g : List (List Nat)} (hg : S0[gp]? = some (.lst ((List.range n).map fun i => .ref (gb + i)))) (hgp : gb + n ≤ gp) (ha : S0[aa]? = some (LN an)) (hab : aa < gb ∨ gb + n ≤ aa) (hp : p < n)
    (wf : WfG n s (fun t => an.getD t 0) g) (bal : Bal s (fun t => an.getD t 0) g) (hs : g.flatten.length ≤ 900) (hlt : ∀ t ∈ g.flatten, t < an.length) (gv : ∀ i l, g[i]? = some l → S0[gb + i]? = some (LN l)) :
    ∃ fr S', i_rings_from [vN p, .ref gp, .ref aa] S0 = .ok (.ref S0.length) S' ∧ S'[S0.length]? = some (.lst (fr.map .ref)) ∧ (∀ a, a < S0.length → (a < gb ∨ gb + n ≤ a) → S'[a]? = S0[a]?) ∧ (∀ i l, (rfF (fun t => an.getD t 0) p g).2[i]? = some l → S'[gb + i]? = some (LN l)) ∧ fr.Nodup ∧
      Paired (fun r l => S0.length < r ∧ S'[r]? = some (LN l)) fr (rfF (fun t => an.getD t 0) p g).1 := by
  obtain ⟨a, hA⟩ : ∃ a : Nat → Nat, a = fun t => an.getD t 0 := ⟨_, rfl⟩
  rw [← hA] at wf bal ⊢
  have hg' := glt hg
  have key : ∃ ρ' S' wa ma fr x7 x8, sWhile rfC rfB [some (vN p), some (.ref gp), some (.ref aa), some (.ref S0.length), some (.ref (S0.length + 1)), some (vN p), some (.ref (S0.length + 2)), none, none] (S0 ++ [.lst [], .lst [], .lst [vN p]]) = .nx ρ' S' ∧
      ρ' = [some (vN p), some (.ref gp), some (.ref aa), some (.ref S0.length), some (.ref wa), some (vN (wgo a g.flatten.length ⟨[], [], p, [p], g⟩).here), some (.ref ma), x7, x8] ∧ RF S0 n gb (wgo a g.flatten.length ⟨[], [], p, [p], g⟩) wa ma fr S' := by
    refine while_rule (G := fun o => ∃ ρ' S' wa ma fr x7 x8, o = .nx ρ' S' ∧ ρ' = [some (vN p), some (.ref gp), some (.ref aa), some (.ref S0.length), some (.ref wa), some (vN (wgo a g.flatten.length ⟨[], [], p, [p], g⟩).here), some (.ref ma), x7, x8] ∧ RF S0 n gb (wgo a g.flatten.length ⟨[], [], p, [p], g⟩) wa ma fr S')
      (by rintro ⟨_, _, _, _, _, _, _, z, _⟩; cases z)
      (fun m ρ S => ∃ w wa ma fr x7 x8, Wi n s a p g w ∧ w.g.flatten.length = m ∧ wgo a m w = wgo a g.flatten.length ⟨[], [], p, [p], g⟩ ∧ ρ = [some (vN p), some (.ref gp), some (.ref aa), some (.ref S0.length), some (.ref wa), some (vN w.here), some (.ref ma), x7, x8] ∧ RF S0 n gb w wa ma fr S) ?_ (m := g.flatten.length) ?_
    · rintro m ρ S ⟨w, wa, ma, fr, x7, x8, wi, hm, hw, rfl, rf⟩
      have hn : w.here < n := wi.lt _ (List.mem_of_getElem? wi.lst)
      obtain ⟨T, hT⟩ := rf_test (p := p) (aa := aa) (x7 := x7) (x8 := x8) rf hg hgp hn wi.wf.1
      refine ⟨_, _, hT, fun hb => ?_, fun hb => ?_⟩
      · have hc : ¬ (w.g.getD w.here [] ≠ [] ∨ w.way ≠ []) := of_decide_eq_false hb
        have e : wgo a m w = w := by
          cases m with
          | zero => rfl
          | succ m => unfold wgo; rw [if_neg hc]
        rw [e] at hw
        subst hw
        exact ⟨_, _, wa, ma, fr, x7, x8, rfl, rfl, rf.app⟩
      · have hc : w.g.getD w.here [] ≠ [] ∨ w.way ≠ [] := of_decide_eq_true hb
        have hne := wi.ne hc
        obtain ⟨z1, z2, z3⟩ := wi_sizes wi hs
        have hl := Paired.len rf.rg
        obtain ⟨wi2, hlen⟩ := wi.step hne
        have hsub : ∀ x ∈ w.g.getD w.here [], x < an.length := fun x hx => by
          refine hlt x (wi.pm.subset ?_)
          rw [List.mem_append]
          right
          rw [List.mem_flatten]
          exact ⟨_, List.mem_of_getElem? (getD_of_lt (by rw [wi.wf.1]; exact hn)), hx⟩
        obtain ⟨wa', ma', fr', x7', x8', S2, h1, h2⟩ := rf_step (p := p) (x7 := x7) (x8 := x8) (rf.app (T := T)) hg hgp hn wi.wf.1 ha hab hne (fun x hx => by have := hsub x hx; simp [List.getD, this]) z1 z2 (by omega)
        rw [h1]
        rw [← hA] at h2 ⊢
        refine ⟨m - 1, by omega, wstep a w, wa', ma', fr', x7', x8', wi2, by omega, ?_, rfl, h2⟩
        cases m with
        | zero => omega
        | succ m =>
          rw [← hw]
          conv => rhs; unfold wgo
          rw [if_pos hc]
          rfl
    · refine ⟨⟨[], [], p, [p], g⟩, S0.length + 1, S0.length + 2, [], none, none, Wi.init wf hp bal, rfl, rfl, rfl, ⟨fun a h1 h2 => gapp h1, fun i l e => get_app (gv i l e), get_n0, get_n1, get_n2, by omega, by omega, by omega, by simp, .nil⟩⟩
  obtain ⟨ρ', S', wa, ma, fr, x7, x8, h1, h2, rf⟩ := key
  refine ⟨fr, S', ?_, rf.fnd, rf.keep, rf.giv, rf.nd, Paired.imp (fun r l ⟨h1, _, _, h4⟩ => ⟨h1, h4⟩) rf.rg⟩
  simp only [i_rings_from, mk3, List.replicate]
  simp [rfC, rfB, h2] at h1 ⊢
  simp [h1]
end
end IL

end
section
set_option linter.all false
set_option maxRecDepth 100000
set_option maxHeartbeats 1000000
namespace IL
open PySem L2 MR
theorem prefix_of {S S' : Sto} (h : ∀ a, a < S.length → S'[a]? = S[a]?) : ∃ T, S' = S ++ T := by
  refine ⟨S'.drop S.length, ?_⟩
  apply List.ext_getElem?
  intro i
  by_cases hi : i < S.length
  · rw [gapp hi]; exact h i hi
  · rw [List.getElem?_append_right (by omega), List.getElem?_drop]
    congr 1; omega
theorem lc_new {tg : IG} {ρ : Env} (ht : ∀ v S, ∃ ρ1, tg (.one v) ρ S = .ok ρ1 S) : ∀ (vs : List Va) (S : Sto), lcL (fun _ => true) tg iYes (iLst iNil) ρ (vs.map .one) S = .ok ((List.range vs.length).map fun i => .ref (S.length + i)) (S ++ List.replicate vs.length (.lst []))
  | [], S => by simp [lcL]
  | v :: vs, S => by
    obtain ⟨ρ1, h1⟩ := ht v S
    have ih := lc_new ht vs (S ++ [.lst []])
    simp only [List.map_cons, lcL, if_true, h1, R.bindN_ok, x_yes, x_lst, x_nil, R.bind_ok, ih]
    have e1 : (Va.ref S.length :: (List.range vs.length).map fun i => Va.ref ((S ++ [Ob.lst []]).length + i)) = (List.range (v :: vs).length).map fun i => Va.ref (S.length + i) := by
      rw [List.length_cons, List.range_succ_eq_map, List.map_cons, List.map_map]
      congr 1
      apply List.map_congr_left
      intro i _
      show Va.ref _ = Va.ref _
      congr 1
      simp; omega
    have e2 : S ++ [Ob.lst []] ++ List.replicate vs.length (Ob.lst []) = S ++ List.replicate (v :: vs).length (Ob.lst []) := by
      rw [List.length_cons, List.replicate_succ, List.append_assoc]; rfl
    rw [e1, e2]
theorem enuI_get0 {xs : List Va} {i : Nat} {it : It1} (h : (enuI 0 xs)[i]? = some it) : ∃ x, xs[i]? = some x ∧ it = .tup [vN i, x] := by
  obtain ⟨x, h1, h2⟩ := enuI_get 0 xs i it h
  exact ⟨x, h1, by rw [h2, Nat.zero_add]; rfl⟩
theorem giv_succ {n k : Nat} {s a : Nat → Nat} (hs : s k < n) : giv n (k + 1) s a = if a k ≠ s k then (giv n k s a).set (s k) ((giv n k s a).getD (s k) [] ++ [k]) else giv n k s a := by
  have hg : ∀ p, p < n → ∀ m, (giv n m s a)[p]? = some ((List.range m).filter fun t => decide (s t = p ∧ a t ≠ p)) := fun p hp m => giv_get hp
  have gd : (giv n k s a).getD (s k) [] = (List.range k).filter fun t => decide (s t = s k ∧ a t ≠ s k) := getD_some (hg _ hs k)
  have fs : ∀ p, ((List.range (k + 1)).filter fun t => decide (s t = p ∧ a t ≠ p)) = ((List.range k).filter fun t => decide (s t = p ∧ a t ≠ p)) ++ (if s k = p ∧ a k ≠ p then [k] else []) := fun p => by
    rw [List.range_succ, List.filter_append]
    congr 1
    by_cases h : s k = p ∧ a k ≠ p
    · rw [if_pos h]; simp [h]
    · rw [if_neg h]; simp [h]
  apply List.ext_getElem?
  intro p
  by_cases hp : p < n
  · rw [hg p hp, fs]
    by_cases ha : a k ≠ s k
    · rw [if_pos ha]
      by_cases e : s k = p
      · subst e
        rw [List.getElem?_set_self (by rw [giv_len]; exact hs), gd, if_pos ⟨rfl, ha⟩]
      · rw [List.getElem?_set_ne e, hg p hp, if_neg (fun z => e z.1), List.append_nil]
    · rw [if_neg ha, hg p hp]
      have ha' : a k = s k := Classical.not_not.mp ha
      rw [if_neg (fun z => z.2 (by rw [ha', z.1])), List.append_nil]
  · rw [List.getElem?_eq_none (by rw [giv_len]; omega)]
    split
    · rw [List.getElem?_eq_none (by rw [List.length_set, giv_len]; omega)]
    · rw [List.getElem?_eq_none (by rw [giv_len]; omega)]
theorem giv_zero {n : Nat} {s a : Nat → Nat} : giv n 0 s a = List.replicate n [] := by unfold giv; rw [List.eq_replicate_iff]; simp
theorem fNe_N {S : Sto} {x y : Nat} : fNe (vN x) (vN y) S = .ok (.bl (!decide (x = y))) S := by
  simp only [fNe, vN, toP, PyData.eqv]
  congr 2
  by_cases h : x = y
  · subst h; simp
  · rw [decide_eq_false h]; simp; omega
theorem fNe_LN {S : Sto} {p q : Nat} {xs ys : List Nat} (h : S[p]? = some (LN xs)) (hq : S[q]? = some (LN ys)) : fNe (.ref p) (.ref q) S = .ok (.bl (!decide (xs = ys))) S := by
  unfold LN at h hq
  simp only [fNe, toP, h, hq, toP_N, PyData.eqv, eqv_N]
theorem get_mid {B M T : Sto} {i : Nat} {o : Ob} (h : M[i]? = some o) : (B ++ (M ++ T))[B.length + i]? = some o := by
  rw [List.getElem?_append_right (by omega), show B.length + i - B.length = i by omega]
  exact get_app h
theorem set_mid {B M T : Sto} {i : Nat} {o : Ob} (h : i < M.length) : (B ++ (M ++ T)).set (B.length + i) o = B ++ (M.set i o ++ T) := by
  rw [List.set_append_right _ _ (by omega), show B.length + i - B.length = i by omega, List.set_append_left _ _ h]
theorem get_end {B M T : Sto} {k : Nat} {o : Ob} (h : M.length = k) : (B ++ (M ++ o :: T))[B.length + k]? = some o := by
  subst h
  rw [← List.append_assoc, ← List.length_append]; exact get_n0
/-- giving, filled -/
theorem giving_ok {B : Sto} {n q r : Nat} {sh an : List Nat} {x0 x1 x7 x8 : Option Va} (hq : B[q]? = some (LN sh)) (hr : B[r]? = some (LN an)) (hl : an.length = sh.length) (hs : ∀ x ∈ sh, x < n) (hz : sh.length ≤ 1000) (L : Ob) (hL : L = .lst ((List.range n).map fun i => .ref (B.length + i))) :
    ∃ x5 x6, forL (sameAt (B ++ (List.replicate n (.lst []) ++ [L])) (.ref q)) (tgTupN 2 [tgName 5, tgName 6]) (sIf (iB (iOp fNe (iOp fIx (iVar 3) (iVar 5)) (iVar 6))) (sExpr (iBM mAppend (iOp fIx (iVar 4) (iVar 6)) (iCons (iVar 5) iNil))) sNext) (enuI 0 (sh.map vN))
      [x0, x1, some (.ref q), some (.ref r), some (.ref (B.length + n)), none, none, x7, x8] (B ++ (List.replicate n (.lst []) ++ [L])) =
    .nx [x0, x1, some (.ref q), some (.ref r), some (.ref (B.length + n)), x5, x6, x7, x8] (B ++ ((giv n sh.length (fun t => sh.getD t 0) (fun t => an.getD t 0)).map LN ++ [L])) := by
  obtain ⟨ρ', S', h1, x5, x6, h2, h3⟩ := for_nx (chk := sameAt (B ++ (List.replicate n (.lst []) ++ [L])) (.ref q)) (tg := tgTupN 2 [tgName 5, tgName 6]) (body := sIf (iB (iOp fNe (iOp fIx (iVar 3) (iVar 5)) (iVar 6))) (sExpr (iBM mAppend (iOp fIx (iVar 4) (iVar 6)) (iCons (iVar 5) iNil))) sNext)
    (fun k ρ S' => ∃ x5 x6, ρ = [x0, x1, some (.ref q), some (.ref r), some (.ref (B.length + n)), x5, x6, x7, x8] ∧ S' = B ++ ((giv n k (fun t => sh.getD t 0) (fun t => an.getD t 0)).map LN ++ [L])) (enuI 0 (sh.map vN))
    [x0, x1, some (.ref q), some (.ref r), some (.ref (B.length + n)), none, none, x7, x8] (B ++ (List.replicate n (.lst []) ++ [L]))
    ⟨none, none, rfl, by rw [giv_zero, List.map_replicate]; rfl⟩ (fun j it ρ S' hj ⟨x5, x6, e1, e2⟩ => by
      subst e1 e2
      obtain ⟨v, z1, rfl⟩ := enuI_get0 hj
      obtain ⟨x, z2, rfl⟩ := map_get z1
      have hxn : x < n := hs x (List.mem_of_getElem? z2)
      have hjl : j < sh.length := (List.getElem?_eq_some_iff.mp z2).1
      have hy : an[j]? = some (an.getD j 0) := by simp [List.getD, show j < an.length by omega]
      have hsj : sh.getD j 0 = x := by simp [List.getD, z2]
      refine ⟨sameAt_app2 hq, [x0, x1, some (.ref q), some (.ref r), some (.ref (B.length + n)), some (vN j), some (vN x), x7, x8], _, rfl, ?_⟩
      have gs' := giv_succ (n := n) (k := j) (s := fun t => sh.getD t 0) (a := fun t => an.getD t 0) (by rw [hsj]; exact hxn)
      simp only [hsj] at gs'
      generalize hG : giv n j (fun t => sh.getD t 0) (fun t => an.getD t 0) = G at *
      have hGl : G.length = n := by rw [← hG]; exact giv_len
      have c1 : fIx (.ref r) (vN j) (B ++ (G.map LN ++ [L])) = .ok (vN (an.getD j 0)) (B ++ (G.map LN ++ [L])) := fIx_lst (get_app hr) (vN_get hy)
      generalize an.getD j 0 = y at *
      by_cases e : y = x
      · rw [if_neg (by simp [e])] at gs'
        refine ⟨_, _, ?_, some (vN j), some (vN x), rfl, by rw [gs']⟩
        simp [c1, fNe_N, e]
      · rw [if_pos e] at gs'
        have gx : G[x]? = some (G.getD x []) := getD_of_lt (by omega)
        have c2 : fIx (.ref (B.length + n)) (vN x) (B ++ (G.map LN ++ [L])) = .ok (.ref (B.length + x)) (B ++ (G.map LN ++ [L])) := by
          refine fIx_lst (xs := (List.range n).map fun i => .ref (B.length + i)) ?_ (by simp [hxn])
          rw [← hL]
          exact get_end (by rw [List.length_map, hGl])
        have m1 : (B ++ (G.map LN ++ [L]))[B.length + x]? = some (LN (G.getD x [])) := get_mid (by rw [List.getElem?_map, gx]; rfl)
        have hlx : (G.getD x []).length ≤ j := by
          have : G.getD x [] = (List.range j).filter fun t => decide (sh.getD t 0 = x ∧ an.getD t 0 ≠ x) := by rw [← hG]; exact getD_some (giv_get hxn)
          rw [this]
          exact Nat.le_trans (List.length_filter_le _ _) (by simp)
        have c3 := mAppend_LN (x := j) m1 (by omega)
        rw [set_mid (by rw [List.length_map]; omega)] at c3
        refine ⟨_, B ++ ((G.map LN).set x (LN (G.getD x [] ++ [j])) ++ [L]), ?_, some (vN j), some (vN x), rfl, by rw [gs', List.map_set]⟩
        have l1 := getL_LN m1
        simp [c1, fNe_N, e, c2, l1, c3]) (fun ρ S' ⟨x5, x6, e1, e2⟩ => by subst e2; exact sameAt_app2 hq)
  rw [enuI_length, List.length_map] at h3
  subst h2 h3
  exact ⟨x5, x6, h1⟩
/-- what stands while the rings are told; N0: found's place -/
structure RG (S1 : Sto) (n gb : Nat) (fr : List Nat) (x : List (List Nat) × List (List Nat)) (S : Sto) : Prop where
  keep : ∀ a, a < S1.length → (a < gb ∨ gb + n ≤ a) → S[a]? = S1[a]?
  giv : ∀ i l, x.2[i]? = some l → S[gb + i]? = some (LN l)
  fnd : S[S1.length]? = some (.lst (fr.map .ref))
  nd : fr.Nodup
  rg : Paired (fun r l => S1.length < r ∧ S[r]? = some (LN l)) fr x.1
theorem RG.app {S1 : Sto} {n gb : Nat} {fr : List Nat} {x : List (List Nat) × List (List Nat)} {S T : Sto} (h : RG S1 n gb fr x S) : RG S1 n gb fr x (S ++ T) :=
  ⟨fun a h1 h2 => by rw [gapp (by have := glt h.fnd; omega)]; exact h.keep a h1 h2, fun i l e => get_app (h.giv i l e), get_app h.fnd, h.nd, Paired.imp (fun r l ⟨a, b⟩ => ⟨a, get_app b⟩) h.rg⟩
theorem rgo_snoc {a : Nat → Nat} : ∀ (ps : List Nat) (p : Nat) (x : List (List Nat) × List (List Nat)), rgo a (ps ++ [p]) x = rgo a [p] (rgo a ps x)
  | [], _, _ => rfl
  | q :: ps, p, (f, g) => by
    show (if g.getD q [] ≠ [] then rgo a (ps ++ [p]) (f ++ (rfF a q g).1, (rfF a q g).2) else rgo a (ps ++ [p]) (f, g)) = rgo a [p] (if g.getD q [] ≠ [] then rgo a ps (f ++ (rfF a q g).1, (rfF a q g).2) else rgo a ps (f, g))
    split
    · exact rgo_snoc ps p _
    · exact rgo_snoc ps p _
noncomputable abbrev rgB : IS := (sWhile (iB (iOp fNe (iOp fIx (iVar 4) (iVar 8)) (iLst iNil))) (sExpr (iBM mExtend (iVar 7) (iCons (iCall i_rings_from (iCons (iVar 8) (iCons (iVar 4) (iCons (iVar 3) iNil)))) iNil))))
theorem rg_turn {S1 S : Sto} {n gb gp aa p : Nat} {an : List Nat} {s : Nat → Nat} {g0 : List (List Nat)} {fr : List Nat} {f g : List (List Nat)} {x0 x1 x2 x5 x6 : Option Va} (h : RG S1 n gb fr (f, g) S) (ri : Ri n s (fun t => an.getD t 0) g0 (f, g))
    (hg : S1[gp]? = some (.lst ((List.range n).map fun i => .ref (gb + i)))) (hgp : gb + n ≤ gp) (ha : S1[aa]? = some (LN an)) (hab : aa < gb ∨ gb + n ≤ aa) (hp : p < n) (hz : g0.flatten.length ≤ 900) (hlt : ∀ t ∈ g0.flatten, t < an.length) :
    ∃ fr' S', rgB [x0, x1, x2, some (.ref aa), some (.ref gp), x5, x6, some (.ref S1.length), some (vN p)] S = .nx [x0, x1, x2, some (.ref aa), some (.ref gp), x5, x6, some (.ref S1.length), some (vN p)] S' ∧ RG S1 n gb fr' (rgo (fun t => an.getD t 0) [p] (f, g)) S' := by
  have hg' := glt hg
  refine while_rule (G := fun o => ∃ fr' S', o = .nx [x0, x1, x2, some (.ref aa), some (.ref gp), x5, x6, some (.ref S1.length), some (vN p)] S' ∧ RG S1 n gb fr' (rgo (fun t => an.getD t 0) [p] (f, g)) S') (by rintro ⟨_, _, z, _⟩; cases z)
    (fun m ρ S => ρ = [x0, x1, x2, some (.ref aa), some (.ref gp), x5, x6, some (.ref S1.length), some (vN p)] ∧ ∃ fr' f' g', RG S1 n gb fr' (f', g') S ∧ Ri n s (fun t => an.getD t 0) g0 (f', g') ∧ rgo (fun t => an.getD t 0) [p] (f, g) = rgo (fun t => an.getD t 0) [p] (f', g') ∧ m = (if g'.getD p [] = [] then 0 else 1)) ?_ (m := if g.getD p [] = [] then 0 else 1) ⟨rfl, fr, f, g, h, ri, rfl, rfl⟩
  rintro m ρ S ⟨rfl, fr, f, g, h, ri, hr, rfl⟩
  have hgl : g.length = n := ri.wf.1
  have gg : S[gp]? = some (.lst ((List.range n).map fun i => .ref (gb + i))) := by rw [h.keep gp hg' (.inr hgp)]; exact hg
  have gh : S[gb + p]? = some (LN (g.getD p [])) := h.giv p _ (getD_of_lt (g := g) (by omega))
  have c1 : fIx (.ref gp) (vN p) S = .ok (.ref (gb + p)) S := fIx_lst gg (by simp [hp])
  have c2 := fNe_nil (get_app (T := [.lst []]) gh) (get_n0 (T := []))
  refine ⟨!decide (g.getD p [] = []), S ++ [.lst []], ?_, fun hb => ?_, fun hb => ?_⟩
  · simp only [x_B, x_op, x_var, List.getElem?_cons_succ, List.getElem?_cons_zero, R.bind_ok, c1, x_lst, x_nil, c2, x_asB]
  · have hc : g.getD p [] = [] := by simpa using hb
    refine ⟨fr, S ++ [.lst []], rfl, ?_⟩
    rw [hr]
    show RG S1 n gb fr (if g.getD p [] ≠ [] then _ else _) _
    rw [if_neg (fun z => z hc)]
    exact h.app
  · have hc : g.getD p [] ≠ [] := by simpa using hb
    have h2 := h.app (T := [.lst []])
    have hN := glt h.fnd
    have gg2 : (S ++ [Ob.lst []])[gp]? = some (.lst ((List.range n).map fun i => .ref (gb + i))) := get_app gg
    have aA : (S ++ [Ob.lst []])[aa]? = some (LN an) := by have := glt ha; rw [h2.keep aa this hab]; exact ha
    have hsz : g.flatten.length ≤ g0.flatten.length := by
      have := ri.pm.length_eq
      simp only [List.length_append] at this
      omega
    obtain ⟨fr', S', r1, r2, r3, r4, r5, r6⟩ := rings_from_ok (p := p) gg2 hgp aA hab hp (g := g) ri.wf ri.bal (show g.flatten.length ≤ 900 by omega) (fun t ht => hlt t (ri.pm.subset (List.mem_append_right _ ht))) h2.giv
    generalize hS3 : S ++ [Ob.lst []] = S3 at *
    have hlen3 : S1.length < S3.length := by have := glt h2.fnd; omega
    have hN' : S'[S1.length]? = some (.lst (fr.map .ref)) := by rw [r3 _ hlen3 (.inr (by omega))]; exact h2.fnd
    have z1 := Paired.len r6
    have z2 := Paired.len h.rg
    have z3 := len_le_flat ri.fd
    have ri2 := ri.turn hp
    have z4 := len_le_flat ri2.fd
    have z5 := ri2.pm.length_eq
    dsimp only at z1 z2 z3 z4 z5
    simp only [List.length_append] at z4 z5
    have c4 : mExtend (.ref S1.length) [.ref S3.length] S' = .ok .non (S'.set S1.length (.lst ((fr ++ fr').map .ref))) := by
      simp only [mExtend, hN', r2]
      rw [if_pos (by rw [List.length_map, List.length_map]; omega), List.map_append]
    have gl : getL S3 (.ref S1.length) = some (fr.map .ref) := getL_ref h2.fnd
    have eb : (sExpr (iBM mExtend (iVar 7) (iCons (iCall i_rings_from (iCons (iVar 8) (iCons (iVar 4) (iCons (iVar 3) iNil)))) iNil))) [x0, x1, x2, some (.ref aa), some (.ref gp), x5, x6, some (.ref S1.length), some (vN p)] S3 = .nx [x0, x1, x2, some (.ref aa), some (.ref gp), x5, x6, some (.ref S1.length), some (vN p)] (S'.set S1.length (.lst ((fr ++ fr').map .ref))) := by
      simp only [x_expr, x_bm, x_var, List.getElem?_cons_succ, List.getElem?_cons_zero, R.bind_ok, gl, x_cons, x_call, x_nil, r1, c4, R.toO_ok]
    rw [eb]
    have hg3 : (rfF (fun t => an.getD t 0) p g).2.getD p [] = [] := (rf_ok ri.wf hp ri.bal).2.2.1
    refine ⟨0, by rw [if_neg hc]; omega, rfl, fr ++ fr', f ++ (rfF (fun t => an.getD t 0) p g).1, (rfF (fun t => an.getD t 0) p g).2, ?_, ri2, ?_, by rw [if_pos hg3]⟩
    · refine ⟨fun a h1 h3 => ?_, fun i l e => ?_, gself hN', ?_, ?_⟩
      · rw [gs (by omega), r3 a (by omega) h3]; exact h2.keep a h1 h3
      · have : i < n := by
          have := (List.getElem?_eq_some_iff.mp e).1
          rwa [ri2.wf.1] at this
        rw [gs (by omega)]; exact r4 i l e
      · rw [List.nodup_append]
        refine ⟨h.nd, r5, fun a ha b hb => ?_⟩
        obtain ⟨_, _, _, q⟩ := Paired.mem h2.rg ha
        obtain ⟨_, _, q1, _⟩ := Paired.mem r6 hb
        have := glt q
        omega
      · refine Paired.append (Paired.imp (fun r l ⟨q1, q2⟩ => ⟨q1, ?_⟩) h2.rg) (Paired.imp (fun r l ⟨q1, q2⟩ => ⟨by omega, ?_⟩) r6)
        · have := glt q2
          rw [gs (by omega), r3 r (by omega) (.inr (by omega))]; exact q2
        · rw [gs (by omega)]; exact q2
    · rw [hr]
      show (if g.getD p [] ≠ [] then _ else _) = (if (rfF (fun t => an.getD t 0) p g).2.getD p [] ≠ [] then _ else _)
      rw [if_pos hc, if_neg (fun z => z hg3)]
theorem rings_run {S : Sto} {n p q r : Nat} {vs : List Va} {ts : List (Nat × Nat)} {sh an : List Nat} (hp : S[p]? = some (.lst vs)) (ht : Tks S vs ts) (hg : GT n ts) (h1 : 1 ≤ n) (h2 : n ≤ 60) (hl : ts.length ≤ 900) (hq : S[q]? = some (LN sh)) (hs : GS ts sh) (hr : S[r]? = some (LN an)) (ha : GS ts an)
    (hb : loadsN n sh = loadsN n an) : ∃ T k fr, i_rings [vN n, .ref p, .ref q, .ref r] S = .ok (.ref k) (S ++ T) ∧ S.length ≤ k ∧ (S ++ T)[k]? = some (.lst (fr.map .ref)) ∧ fr.Nodup ∧
      Paired (fun a l => k < a ∧ (S ++ T)[a]? = some (LN l)) fr (ringsF n ts.length (fun t => sh.getD t 0) (fun t => an.getD t 0)) := by
  have hls := Paired.len hs
  have hla := Paired.len ha
  have hin : ∀ {zs : List Nat}, GS ts zs → ∀ x ∈ zs, x < n := fun {zs} hz x hx => by
    obtain ⟨k, hk⟩ := List.getElem?_of_mem hx
    have hk2 : k < ts.length := by have := (List.getElem?_eq_some_iff.mp hk).1; have := Paired.len hz; omega
    obtain ⟨y, e1, e2⟩ := Paired.get hz (show ts[k]? = some ts[k] by simp [hk2])
    rw [hk] at e1; cases e1
    obtain ⟨g1, g2⟩ := hg ts[k] (List.getElem_mem _)
    omega
  have hsn := hin hs
  have han := hin ha
  obtain ⟨T1, c1⟩ := check_tasks_ok hp ht hg h1 h2 (by omega)
  obtain ⟨T2, c2⟩ := check_sharing_ok (get_app (T := T1) hp) ht.app (get_app hq) hs (by omega)
  obtain ⟨T3, c3⟩ := check_sharing_ok (get_app (T := T2) (get_app (T := T1) hp)) ht.app.app (get_app (get_app hr)) ha (by omega)
  generalize hB : S ++ T1 ++ T2 ++ T3 = B at *
  have hpre : ∀ {a : Nat} {o : Ob}, S[a]? = some o → B[a]? = some o := fun {a o} e => by rw [← hB]; exact get_app (get_app (get_app e))
  have hBl : S.length ≤ B.length := by rw [← hB]; simp only [List.length_append]; omega
  have hBp : ∀ a, a < S.length → B[a]? = S[a]? := fun a e => by rw [← hB, gapp (by simp; omega), gapp (by simp; omega), gapp e]
  have c4 := loads_of_ok (hpre hq) hsn (by omega)
  have c5 := loads_of_ok (get_app (T := [.lst [.int 0], LN (loadsN n sh)]) (hpre hr)) han (by omega)
  have c6 : fNe (.ref (B.length + 1)) (.ref ((B ++ [.lst [.int 0], LN (loadsN n sh)]).length + 1)) (B ++ [.lst [.int 0], LN (loadsN n sh)] ++ [.lst [.int 0], LN (loadsN n an)]) = .ok (.bl false) (B ++ [.lst [.int 0], LN (loadsN n sh)] ++ [.lst [.int 0], LN (loadsN n an)]) := by
    rw [fNe_LN (get_app get_n1) get_n1, decide_eq_true hb]; rfl
  generalize hB2 : B ++ [Ob.lst [.int 0], LN (loadsN n sh)] ++ [Ob.lst [.int 0], LN (loadsN n an)] = B2 at *
  have hpre2 : ∀ {a : Nat} {o : Ob}, S[a]? = some o → B2[a]? = some o := fun {a o} e => by rw [← hB2]; exact get_app (get_app (hpre e))
  have hB2l : S.length ≤ B2.length := by rw [← hB2]; simp; omega
  have hB2p : ∀ a, a < S.length → B2[a]? = S[a]? := fun a e => by rw [← hB2, gapp (by simp; omega), gapp (by omega)]; exact hBp a e
  have c7 : ∀ ρ : Env, iLc (itRng (iVar 0)) (tgName 8) iYes (iLst iNil) [8] (some (vN n) :: ρ) B2 = .ok (.ref (B2.length + n)) (B2 ++ (List.replicate n (.lst []) ++ [.lst ((List.range n).map fun i => .ref (B2.length + i))])) := fun ρ => by
    have hrl : (rng 0 (n : Int)).length = n := by unfold rng; simp
    have e : ((rng 0 (n : Int)).map fun i => It1.one (.int i)) = ((rng 0 (n : Int)).map Va.int).map .one := by rw [List.map_map]; rfl
    have := lc_new (tg := tgName 8) (ρ := wipeE (some (vN n) :: ρ) [8]) (fun v S => ⟨_, rfl⟩) ((rng 0 (n : Int)).map Va.int) B2
    rw [List.length_map, hrl] at this
    have h100 : ((-100000 : Int) ≤ n ∧ (n : Int) ≤ 100000) := by omega
    simp only [iLc, x_itRng, x_var, List.getElem?_cons_zero, R.bind_ok, vN, h100, and_self, if_true, List.length_map, hrl] at this ⊢
    rw [if_pos (by omega), e, this]
    simp
  obtain ⟨x5, x6, c8⟩ := giving_ok (B := B2) (n := n) (x0 := some (vN n)) (x1 := some (.ref p)) (x7 := none) (x8 := none) (hpre2 hq) (hpre2 hr) (by omega) hsn (by omega) _ rfl
  obtain ⟨L, hL⟩ : ∃ L, L = Ob.lst ((List.range n).map fun i => .ref (B2.length + i)) := ⟨_, rfl⟩
  obtain ⟨g0, hg0⟩ : ∃ g0, g0 = giv n sh.length (fun t => sh.getD t 0) (fun t => an.getD t 0) := ⟨_, rfl⟩
  rw [← hg0, ← hL] at c8
  rw [← hL] at c7
  have hg0l : g0.length = n := by rw [hg0]; exact giv_len
  obtain ⟨S1, hS1⟩ : ∃ S1, S1 = B2 ++ (g0.map LN ++ [L]) := ⟨_, rfl⟩
  rw [← hS1] at c8
  have hS1l : S1.length = B2.length + n + 1 := by rw [hS1]; simp [hg0l]; omega
  have hget : ∀ t, t < sh.length → sh.getD t 0 < n := fun t e => hsn _ (by rw [show sh.getD t 0 = sh[t] by simp [List.getD, e]]; exact List.getElem_mem _)
  have hgetA : ∀ t, t < sh.length → an.getD t 0 < n := fun t e => han _ (by rw [show an.getD t 0 = an[t]'(by omega) by simp [List.getD, show t < an.length by omega]]; exact List.getElem_mem _)
  have cnt : ∀ (zs : List Nat) (k : Nat), (List.range zs.length).countP (fun t => zs.getD t 0 = k) = zs.count k := fun zs k => by
    have e : zs = (List.range zs.length).map fun t => zs.getD t 0 := by
      apply List.ext_getElem?
      intro i
      by_cases hi : i < zs.length
      · simp [hi, List.getD]
      · rw [List.getElem?_eq_none (by omega), List.getElem?_eq_none (by simp; omega)]
    conv => rhs; rw [e]
    rw [List.count, List.countP_map]
    apply List.countP_congr
    intro t _
    simp
  have hbal : ∀ k, (List.range sh.length).countP (fun t => sh.getD t 0 = k) = (List.range sh.length).countP (fun t => an.getD t 0 = k) := fun k => by
    rw [cnt, show sh.length = an.length by omega, cnt]
    by_cases hk : k < n
    · have := congrArg (fun l => l[k]?) hb
      simp only [loadsN_get hk] at this
      exact Option.some.inj this
    · rw [List.count_eq_zero.mpr (fun z => hk (hsn k z)), List.count_eq_zero.mpr (fun z => hk (han k z))]
  have hgl : ∀ t ∈ g0.flatten, t < an.length := fun t ht => by
    rw [hg0] at ht
    have := (giv_flat n sh.length (fun t => sh.getD t 0) (fun t => an.getD t 0)).subset ht
    rw [List.mem_filter, List.mem_range] at this
    omega
  have hgsz : g0.flatten.length ≤ 900 := by
    have := (giv_flat n sh.length (fun t => sh.getD t 0) (fun t => an.getD t 0)).length_eq
    rw [← hg0] at this
    rw [this]
    exact Nat.le_trans (List.length_filter_le _ _) (by simp; omega)
  have ri0 : Ri n (fun t => sh.getD t 0) (fun t => an.getD t 0) g0 ([], g0) := by
    rw [hg0]
    exact ⟨giv_wf hgetA, giv_bal hget hbal, fun r hr => (by cases hr), by simp⟩
  have hgp : S1[B2.length + n]? = some (.lst ((List.range n).map fun i => .ref (B2.length + i))) := by
    rw [hS1, ← hL]; exact get_end (by rw [List.length_map, hg0l])
  have hrS1 : S1[r]? = some (LN an) := by rw [hS1]; exact get_app (hpre2 hr)
  have hrl := glt (hpre2 hr)
  obtain ⟨ρ9, S9, c9, x8, fr, e9, rg9, ri9⟩ := for_nx (chk := fun _ => true) (tg := tgName 8) (body := rgB)
    (fun k ρ S' => ∃ x8 fr, ρ = [some (vN n), some (.ref p), some (.ref q), some (.ref r), some (.ref (B2.length + n)), x5, x6, some (.ref S1.length), x8] ∧ RG S1 n B2.length fr (rgo (fun t => an.getD t 0) (List.range k) ([], g0)) S' ∧ Ri n (fun t => sh.getD t 0) (fun t => an.getD t 0) g0 (rgo (fun t => an.getD t 0) (List.range k) ([], g0)))
    ((rng 0 (n : Int)).map fun i => It1.one (.int i)) [some (vN n), some (.ref p), some (.ref q), some (.ref r), some (.ref (B2.length + n)), x5, x6, some (.ref S1.length), none] (S1 ++ [.lst []])
    ⟨none, [], rfl, ⟨fun a e _ => gapp e, fun i l e => get_app (by rw [hS1]; exact get_mid (by rw [List.getElem?_map, show g0[i]? = some l from e]; rfl)), get_n0, by simp, .nil⟩, ri0⟩
    (fun j it ρ S' hj ⟨x8, fr, e1, rg, ri⟩ => by
      subst e1
      obtain ⟨k, z1, rfl⟩ := map_get hj
      have hjn : j < n := by
        have := (List.getElem?_eq_some_iff.mp z1).1
        unfold rng at this; simpa using this
      have hk : k = (j : Int) := by
        unfold rng at z1
        obtain ⟨y, z2, rfl⟩ := map_get z1
        have := (List.getElem?_eq_some_iff.mp z2)
        obtain ⟨q1, q2⟩ := this
        rw [List.getElem_range] at q2
        omega
      subst hk
      obtain ⟨fr', S2, d1, d2⟩ := rg_turn (x0 := some (vN n)) (x1 := some (.ref p)) (x2 := some (.ref q)) (x5 := x5) (x6 := x6) rg ri hgp (Nat.le_refl _) hrS1 (.inl hrl) hjn hgsz hgl
      refine ⟨rfl, _, _, rfl, _, S2, d1, some (vN j), fr', rfl, ?_, ?_⟩
      · rw [List.range_succ, rgo_snoc]; exact d2
      · rw [List.range_succ, rgo_snoc]
        generalize rgo (fun t => an.getD t 0) (List.range j) ([], g0) = fg at *
        obtain ⟨f, g⟩ := fg
        show Ri _ _ _ _ (if g.getD j [] ≠ [] then _ else _)
        split
        · exact ri.turn hjn
        · exact ri) (fun _ _ _ => rfl)
  have hrl9 : (rng 0 (n : Int)).length = n := by unfold rng; simp
  rw [List.length_map, hrl9] at rg9 ri9
  obtain ⟨T, hT⟩ := prefix_of (S := S) (S' := S9) (fun a e => by
    rw [rg9.keep a (by omega) (.inl (by omega)), hS1, gapp (by omega)]; exact hB2p a e)
  subst hT
  have hrf : ringsF n ts.length (fun t => sh.getD t 0) (fun t => an.getD t 0) = (rgo (fun t => an.getD t 0) (List.range n) ([], g0)).1 := by
    unfold ringsF; rw [hg0, hls]
  refine ⟨T, S1.length, fr, ?_, by omega, rg9.fnd, rg9.nd, by rw [hrf]; exact rg9.rg⟩
  subst e9
  have h100 : ((-100000 : Int) ≤ n ∧ (n : Int) ≤ 100000) := by omega
  have lq : getL (B2 ++ (List.replicate n (.lst []) ++ [L])) (.ref q) = some (sh.map vN) := getL_LN (get_app (hpre2 hq))
  have c10 : ∀ (ρ : Env) (S' : Sto), itRng (iVar 0) (some (vN n) :: ρ) S' = .ok ⟨(rng 0 (n : Int)).map fun i => .one (.int i), fun _ => true⟩ S' := fun ρ S' => by
    simp only [x_itRng, x_var, List.getElem?_cons_zero, R.bind_ok, vN, h100, and_self, if_true]
  simp only [i_rings, mk4, List.replicate]
  simp only [x_seq, x_expr, x_call, x_cons, x_var, x_nil, List.getElem?_cons_succ, List.getElem?_cons_zero, R.bind_ok, c1, c2, c3, R.toO_ok, O.seq_nx, x_sif, x_B, x_op, c4, c5, c6, x_asB, Bool.false_eq_true, if_false, x_next, x_asg, c7, x_tgName, List.set, x_for, x_itEnum, lq, c8, x_lst, c10, c9, x_ret, x_val_rt]
end IL

end
section
set_option linter.all false
set_option maxRecDepth 100000
set_option maxHeartbeats 1000000
namespace IL
open PySem L2
abbrev bits := PySem.Builtin.Int.intBits
theorem fMul_ii {S : Sto} {x y : Int} (h : IntMulOk x y) : fMul (.int x) (.int y) S = .ok (.int (x * y)) S := by simp [fMul, h]
theorem bits_small {x : Int} {k : Nat} (h : x.natAbs < 2 ^ k) : bits x ≤ k := by
  unfold bits PySem.Builtin.Int.intBits
  split
  · omega
  · rename_i h0
    have h0' : x ≠ 0 := by simpa using h0
    have := (Nat.log2_lt (n := x.natAbs) (k := k) (by omega)).mpr h
    omega
theorem number_ok {S : Sto} {c a w : Int} (hc : bits c ≤ 1048576) (ha : 0 ≤ a) (ha2 : a ≤ 200) (hw : bits w ≤ 1048700) : ∃ z, i__law_number [.int c, .int a, .int w] S = .ok (.int z) S := by
  have ba : bits a ≤ 8 := bits_small (by omega)
  have b977 : bits 977 ≤ 10 := bits_small (by decide)
  have b48 : bits 48271 ≤ 16 := bits_small (by decide)
  have b31 : bits 31 ≤ 5 := bits_small (by decide)
  have b7 : bits 7 ≤ 5 := bits_small (by decide)
  have b5 : bits 5 ≤ 5 := bits_small (by decide)
  have b21 : bits 2147483647 ≤ 31 := bits_small (by decide)
  have m1 : IntMulOk 977 a := PyProof.Rows.mulOk_of_bits b977 ba (by omega)
  have b1 : bits (977 * a) ≤ 18 := PyProof.Rows.bits_mul b977 ba
  have b2 : bits (c + 977 * a) ≤ 1048577 := PyProof.Rows.bits_add hc b1
  have m2 : IntMulOk (c + 977 * a) 48271 := PyProof.Rows.mulOk_of_bits b2 b48 (by omega)
  have b3 : bits (((c + 977 * a) * 48271 + w) % 2147483647) ≤ 31 := by
    refine bits_small ?_
    have := Int.emod_nonneg ((c + 977 * a) * 48271 + w) (show (2147483647 : Int) ≠ 0 by decide)
    have := Int.emod_lt_of_pos ((c + 977 * a) * 48271 + w) (show (0 : Int) < 2147483647 by decide)
    omega
  generalize hm : ((c + 977 * a) * 48271 + w) % 2147483647 = mx at *
  have m3 : IntMulOk 31 a := PyProof.Rows.mulOk_of_bits b31 ba (by omega)
  have b4 : bits (mx + 31 * a + 7) ≤ 33 := PyProof.Rows.bits_add (PyProof.Rows.bits_add b3 (PyProof.Rows.bits_mul b31 ba)) b7
  have m4 : IntMulOk mx (mx + 31 * a + 7) := PyProof.Rows.mulOk_of_bits b3 b4 (by omega)
  have b5' : bits (mx * (mx + 31 * a + 7)) ≤ 64 := PyProof.Rows.bits_mul b3 b4
  have b6 : bits (mx + c + 5) ≤ 1048578 := PyProof.Rows.bits_add (PyProof.Rows.bits_add b3 hc) b5
  have m5 : IntMulOk (mx * (mx + 31 * a + 7)) (mx + c + 5) := PyProof.Rows.mulOk_of_bits b5' b6 (by omega)
  have b7' : bits (mx * (mx + 31 * a + 7) * (mx + c + 5)) ≤ 1048642 := PyProof.Rows.bits_mul b5' b6
  generalize hmo : mx * (mx + 31 * a + 7) * (mx + c + 5) = mo at *
  have b8 : bits (mo + 48271) ≤ 1048643 := PyProof.Rows.bits_add b7' b48
  have m6 : IntMulOk mo (mo + 48271) := PyProof.Rows.mulOk_of_bits b7' b8 (by omega)
  by_cases h : (1000000000000000000 : Int) ≤ c
  · refine ⟨c, ?_⟩
    simp only [i__law_number, mk3, List.replicate]
    simp [fPow, h]
  · refine ⟨mo * (mo + 48271) / 1009, ?_⟩
    simp only [i__law_number, mk3, List.replicate]
    simp [fPow, h, fMul_ii m1, fMul_ii m2, fMod, hm, fMul_ii m3, fMul_ii m4, fMul_ii m5, hmo, fMul_ii m6, fDiv]
/-! ### people and tasks -/
def Tup (S S' : Sto) : Prop := ∀ (q : Nat) xs, S[q]? = some (.tup xs) → S'[q]? = some (.tup xs)
theorem Tks.tup {S S' : Sto} {vs : List Va} {ts : List (Nat × Nat)} (h : Tks S vs ts) (t : Tup S S') : Tks S' vs ts := Paired.imp (fun _ _ ⟨q, h1, h2⟩ => ⟨q, h1, t q _ h2⟩) h
theorem tup_app {S T : Sto} : Tup S (S ++ T) := fun q xs h => get_app h
theorem tup_set {S : Sto} {p : Nat} {xs : List Va} {o : Ob} (h : S[p]? = some (.lst xs)) : Tup S (S.set p o) := fun q ys e => by
  rw [gs]; exact e
  rintro rfl; rw [h] at e; cases e
theorem Tup.trans {S S1 S2 : Sto} (a : Tup S S1) (b : Tup S1 S2) : Tup S S2 := fun q xs h => b q xs (a q xs h)
theorem other_ne {n o y : Nat} (h : 2 ≤ n) (ho : o < n) (hy : y < n - 1) : (o + 1 + y) % n ≠ o ∧ (o + 1 + y) % n < n := by
  refine ⟨?_, Nat.mod_lt _ (by omega)⟩
  by_cases e : o + 1 + y < n
  · rw [Nat.mod_eq_of_lt e]; omega
  · rw [Nat.mod_eq_sub_mod (by omega), Nat.mod_eq_of_lt (by omega)]; omega
theorem emod_nat (z : Int) (n : Nat) (h : 0 < n) : ∃ k : Nat, k < n ∧ z % (n : Int) = (k : Int) := by
  have h1 := Int.emod_nonneg z (show (n : Int) ≠ 0 by omega)
  have h2 := Int.emod_lt_of_pos z (show (0 : Int) < n by omega)
  exact ⟨(z % (n : Int)).toNat, by omega, by omega⟩
theorem fEq_ii {S : Sto} {x y : Int} : fEq (.int x) (.int y) S = .ok (.bl (decide (x = y))) S := by
  simp only [fEq, toP, PyData.eqv]
  congr 2
theorem sum_bits : ∀ {cs : List Int}, (∀ z ∈ cs, bits z ≤ 1048576) → bits cs.sum ≤ 1048576 + cs.length
  | [], _ => by simp [bits, PySem.Builtin.Int.intBits]
  | c :: cs, h => by
    rw [List.sum_cons, List.length_cons]
    have h1 := sum_bits (cs := cs) fun z hz => h z (List.mem_cons_of_mem _ hz)
    have h2 : bits (c + cs.sum) ≤ max 1048576 (1048576 + cs.length) + 1 := PyProof.Rows.bits_add (h c List.mem_cons_self) h1
    omega
end IL

end
section
set_option linter.all false
set_option maxRecDepth 100000
set_option maxHeartbeats 1000000
namespace IL
open PySem L2
noncomputable abbrev ltB : IS := (sSeq (sAsg (iCall i__law_number (iCons (iVar 6) (iCons (iVar 5) (iCons (iVar 2) iNil)))) (tgName 7))
  (sSeq (sAsg (iOp fMod (iVar 7) (iVar 3)) (tgName 8))
  (sSeq (sIf (iB (iOp fEq (iOp fMod (iOp fDiv (iVar 2) (iC (.int 24))) (iC (.int 6))) (iC (.int 1)))) (sAsg (iOp fMod (iOp fMod (iVar 7) (iC (.int 3))) (iVar 3)) (tgName 8)) sNext)
  (sSeq (sAsg (iOp fMod (iOp fAdd (iOp fAdd (iVar 8) (iC (.int 1))) (iOp fMod (iOp fDiv (iVar 7) (iVar 3)) (iOp fSub (iVar 3) (iC (.int 1))))) (iVar 3)) (tgName 9))
  (sSeq (sIf (iB (iOp fEq (iOp fMod (iOp fDiv (iVar 2) (iC (.int 24))) (iC (.int 6))) (iC (.int 2)))) (sAsg (iOp fMod (iOp fAdd (iVar 8) (iC (.int 1))) (iVar 3)) (tgName 9)) sNext)
  (sSeq (sIf (iB (iOp fEq (iOp fMod (iOp fDiv (iVar 2) (iC (.int 24))) (iC (.int 6))) (iC (.int 3)))) (sPar 8 9 (iCons (iOp fMod (iVar 5) (iVar 3)) (iCons (iOp fMod (iOp fAdd (iVar 5) (iC (.int 1))) (iVar 3)) iNil))) sNext)
  (sExpr (iBM mAppend (iVar 4) (iCons (IL.iTup (iCons (iCB fMin (iCons (iVar 8) (iCons (iVar 9) iNil))) (iCons (iCB fMax (iCons (iVar 8) (iCons (iVar 9) iNil))) iNil))) iNil)))))))))
theorem fMod_N {S : Sto} {z : Int} {n k : Nat} (hn : 0 < n) (h : z % (n : Int) = (k : Int)) : fMod (.int z) (vN n) S = .ok (vN k) S := by
  simp only [fMod, vN]
  rw [if_pos (by omega), h]
theorem lt_body {S : Sto} {n j f : Nat} {c w : Int} {vs : List Va} {x0 x1 x7 x8 x9 : Option Va} (hc : bits c ≤ 1048576) (hw : bits w ≤ 1048700) (hj : j ≤ 63) (h2 : 2 ≤ n) (h60 : n ≤ 60) (hf : S[f]? = some (.lst vs)) (hl : vs.length < 1000) :
    ∃ a b x7' x8' x9', a < b ∧ b < n ∧ ltB [x0, x1, some (.int w), some (vN n), some (.ref f), some (vN j), some (.int c), x7, x8, x9] S = .nx [x0, x1, some (.int w), some (vN n), some (.ref f), some (vN j), some (.int c), x7', x8', x9'] ((S ++ [Ob.tup [vN a, vN b]]).set f (Ob.lst (vs ++ [Va.ref S.length]))) := by
  obtain ⟨z, hz⟩ := number_ok (S := S) (c := c) (a := (j : Int)) (w := w) hc (by omega) (by omega) hw
  have hz' : i__law_number [.int c, vN j, .int w] S = .ok (.int z) S := hz
  obtain ⟨o1, ho1, e1⟩ := emod_nat z n (by omega)
  obtain ⟨t3, ht3, e2⟩ := emod_nat z 3 (by omega)
  obtain ⟨o2, ho2, e3⟩ := emod_nat (t3 : Int) n (by omega)
  obtain ⟨y, hy, e4⟩ := emod_nat (z / (n : Int)) (n - 1) (by omega)
  obtain ⟨o3, ho3, e5⟩ := emod_nat (j : Int) n (by omega)
  have c1 := fun S => fMod_N (S := S) (by omega : 0 < n) e1
  have c2 : ∀ S, fMod (.int z) (.int 3) S = .ok (.int t3) S := fun S => fMod_N (n := 3) (by omega) e2
  have c3 : ∀ S, fMod (.int t3) (vN n) S = .ok (vN o2) S := fun S => fMod_N (by omega) e3
  have c4 : ∀ S, fDiv (.int z) (vN n) S = .ok (.int (z / (n : Int))) S := fun S => by simp only [fDiv, vN]; rw [if_pos (by omega)]
  have c5 : ∀ S, fSub (vN n) (.int 1) S = .ok (.int ((n - 1 : Nat) : Int)) S := fun S => by
    show R.ok (Va.int ((n : Int) - 1)) S = _
    rw [show ((n : Int) - 1) = ((n - 1 : Nat) : Int) by omega]
  have c6 : ∀ S, fMod (.int (z / (n : Int))) (.int ((n - 1 : Nat) : Int)) S = .ok (.int (y : Int)) S := fun S => fMod_N (by omega) e4
  have c7 : ∀ (o k : Nat) S, fMod (.int ((o : Int) + 1 + (k : Int))) (vN n) S = .ok (vN ((o + 1 + k) % n)) S := fun o k S => fMod_N (by omega) (by rw [show ((o : Int) + 1 + (k : Int)) = ((o + 1 + k : Nat) : Int) by omega]; exact (Int.natCast_emod _ _).symm)
  have c8 : ∀ (o : Nat) S, fMod (.int ((o : Int) + 1)) (vN n) S = .ok (vN ((o + 1 + 0) % n)) S := fun o S => fMod_N (by omega) (by rw [show ((o : Int) + 1) = ((o + 1 + 0 : Nat) : Int) by omega]; exact (Int.natCast_emod _ _).symm)
  have c9 : ∀ S, fMod (vN j) (vN n) S = .ok (vN o3) S := fun S => fMod_N (by omega) e5
  have c10 : ∀ S, fMod (.int ((j : Int) + 1)) (vN n) S = .ok (vN ((o3 + 1 + 0) % n)) S := fun S => fMod_N (by omega) (by
    have : (j : Int) % (n : Int) = ((j % n : Nat) : Int) := (Int.natCast_emod _ _).symm
    rw [this] at e5
    have e6 : j % n = o3 := by omega
    rw [show ((j : Int) + 1) = ((j + 1 : Nat) : Int) by omega, ← Int.natCast_emod, ← e6]
    congr 1
    exact (Nat.mod_add_mod j n 1).symm)
  have fin : ∀ a b : Nat, a < n → b < n → a ≠ b → ∀ x7' : Option Va, ∃ a' b' x7'' x8' x9', a' < b' ∧ b' < n ∧ (sExpr (iBM mAppend (iVar 4) (iCons (IL.iTup (iCons (iCB fMin (iCons (iVar 8) (iCons (iVar 9) iNil))) (iCons (iCB fMax (iCons (iVar 8) (iCons (iVar 9) iNil))) iNil))) iNil))) [x0, x1, some (.int w), some (vN n), some (.ref f), some (vN j), some (.int c), x7', some (vN a), some (vN b)] S = .nx [x0, x1, some (.int w), some (vN n), some (.ref f), some (vN j), some (.int c), x7'', x8', x9'] ((S ++ [Ob.tup [vN a', vN b']]).set f (Ob.lst (vs ++ [Va.ref S.length]))) := fun a b ha hb hne x7' => by
    refine ⟨min a b, max a b, x7', some (vN a), some (vN b), by omega, by omega, ?_⟩
    have d1 : fMin [vN a, vN b] S = .ok (vN (min a b)) S := by show R.ok (Va.int (min (a : Int) b)) S = _; rw [show min (a : Int) b = ((min a b : Nat) : Int) by omega]; rfl
    have d2 : fMax [vN a, vN b] S = .ok (vN (max a b)) S := by show R.ok (Va.int (max (a : Int) b)) S = _; rw [show max (a : Int) b = ((max a b : Nat) : Int) by omega]; rfl
    have d3 : (S ++ [Ob.tup [vN (min a b), vN (max a b)]])[f]? = some (.lst vs) := get_app hf
    have d4 : mAppend (.ref f) [.ref S.length] (S ++ [Ob.tup [vN (min a b), vN (max a b)]]) = .ok .non ((S ++ [Ob.tup [vN (min a b), vN (max a b)]]).set f (Ob.lst (vs ++ [Va.ref S.length]))) := by
      simp only [mAppend, d3]
      rw [if_pos (by omega)]
    simp only [x_expr, x_bm, x_var, List.getElem?_cons_succ, List.getElem?_cons_zero, R.bind_ok, getL_ref hf, x_cons, x_tup, x_cb, x_nil, d1, d2, d4, R.toO_ok]
  have w24 : ∀ S, fDiv (.int w) (.int 24) S = .ok (.int (w / 24)) S := fun S => by simp [fDiv]
  have w6 : ∀ S, fMod (.int (w / 24)) (.int 6) S = .ok (.int (w / 24 % 6)) S := fun S => by simp [fMod]
  have addv : ∀ (o : Nat) S, fAdd (vN o) (.int 1) S = .ok (.int ((o : Int) + 1)) S := fun o S => rfl
  have addw : ∀ (o k : Nat) S, fAdd (.int ((o : Int) + 1)) (.int (k : Int)) S = .ok (.int ((o : Int) + 1 + (k : Int))) S := fun o k S => rfl
  have hh : ∃ o, o < n ∧ ((w / 24 % 6 = 1 ∧ o = o2) ∨ (w / 24 % 6 ≠ 1 ∧ o = o1)) := by
    by_cases h : w / 24 % 6 = 1
    · exact ⟨o2, ho2, .inl ⟨h, rfl⟩⟩
    · exact ⟨o1, ho1, .inr ⟨h, rfl⟩⟩
  obtain ⟨z1, z2⟩ := other_ne (y := y) h2 ho1 (by omega)
  obtain ⟨z3, z4⟩ := other_ne (y := y) h2 ho2 (by omega)
  obtain ⟨z5, z6⟩ := other_ne (y := 0) h2 ho1 (by omega)
  obtain ⟨z7, z8⟩ := other_ne (y := 0) h2 ho2 (by omega)
  obtain ⟨z9, z0⟩ := other_ne (y := 0) h2 ho3 (by omega)
  by_cases k1 : w / 24 % 6 = 1
  · have d1 := decide_eq_true k1
    have d2 : decide (w / 24 % 6 = 2) = false := decide_eq_false (by omega)
    have d3 : decide (w / 24 % 6 = 3) = false := decide_eq_false (by omega)
    simp only [x_seq, x_asg, x_call, x_cons, x_nil, x_var, List.getElem?_cons_succ, List.getElem?_cons_zero, R.bind_ok, hz', R.toO_ok, x_tgName, List.set, O.seq_nx, x_op, c1, x_sif, x_B, w24, w6, x_c, fEq_ii, x_asB, d1, d2, d3, if_true, Bool.false_eq_true, if_false, c2, c3, addv, c4, c5, c6, addw, c7, x_next]
    exact fin o2 ((o2 + 1 + y) % n) ho2 z4 (Ne.symm z3) (some (.int z))
  · have d1 := decide_eq_false k1
    by_cases k2 : w / 24 % 6 = 2
    · have d2 := decide_eq_true k2
      have d3 : decide (w / 24 % 6 = 3) = false := decide_eq_false (by omega)
      simp only [x_seq, x_asg, x_call, x_cons, x_nil, x_var, List.getElem?_cons_succ, List.getElem?_cons_zero, R.bind_ok, hz', R.toO_ok, x_tgName, List.set, O.seq_nx, x_op, c1, x_sif, x_B, w24, w6, x_c, fEq_ii, x_asB, d1, d2, d3, if_true, Bool.false_eq_true, if_false, c2, c3, addv, c4, c5, c6, addw, c7, x_next, c8]
      exact fin o1 ((o1 + 1 + 0) % n) ho1 z6 (Ne.symm z5) (some (.int z))
    · have d2 := decide_eq_false k2
      by_cases k3 : w / 24 % 6 = 3
      · have d3 := decide_eq_true k3
        have adj : ∀ S, fAdd (vN j) (.int 1) S = .ok (.int ((j : Int) + 1)) S := fun S => rfl
        simp only [x_seq, x_asg, x_call, x_cons, x_nil, x_var, List.getElem?_cons_succ, List.getElem?_cons_zero, R.bind_ok, hz', R.toO_ok, x_tgName, List.set, O.seq_nx, x_op, c1, x_sif, x_B, w24, w6, x_c, fEq_ii, x_asB, d1, d2, d3, if_true, Bool.false_eq_true, if_false, c2, c3, addv, c4, c5, c6, addw, c7, x_next, x_par, c9, adj, c10]
        exact fin o3 ((o3 + 1 + 0) % n) ho3 z0 (Ne.symm z9) (some (.int z))
      · have d3 := decide_eq_false k3
        simp only [x_seq, x_asg, x_call, x_cons, x_nil, x_var, List.getElem?_cons_succ, List.getElem?_cons_zero, R.bind_ok, hz', R.toO_ok, x_tgName, List.set, O.seq_nx, x_op, c1, x_sif, x_B, w24, w6, x_c, fEq_ii, x_asB, d1, d2, d3, if_true, Bool.false_eq_true, if_false, c2, c3, addv, c4, c5, c6, addw, c7, x_next]
        exact fin o1 ((o1 + 1 + y) % n) ho1 z2 (Ne.symm z1) (some (.int z))
theorem mulOk_nat {x y : Nat} (hx : x < 2 ^ 30) (hy : y < 2 ^ 30) : IntMulOk (x : Int) (y : Int) := PyProof.Rows.mulOk_of_bits (bits_small (k := 30) (by omega)) (bits_small (k := 30) (by omega)) (by omega)
theorem cut63 (cs : List Int) (h : cs.length ≤ 63) : cut (cs.map Va.int) none (some 63) = cs.map Va.int := by
  have := cut_to (cs.map Va.int) 63
  rw [show ((63 : Nat) : Int) = 63 from rfl] at this
  rw [this, List.take_of_length_le (by rw [List.length_map]; exact h)]
/-- tasks as they lie -/
structure TL (S : Sto) (p n : Nat) (ts : List (Nat × Nat)) : Prop where
  ex : ∃ vs, S[p]? = some (.lst vs) ∧ Tks S vs ts
  gt : GT n ts
theorem TL.app {S T : Sto} {p n : Nat} {ts : List (Nat × Nat)} (h : TL S p n ts) : TL (S ++ T) p n ts := by
  obtain ⟨vs, h1, h2⟩ := h.ex
  exact ⟨⟨vs, get_app h1, h2.app⟩, h.gt⟩
theorem tasks_ok {S : Sto} {v : Va} {cs : List Int} (hv : getL S v = some (cs.map .int)) (hl : cs.length ≤ 63) (hb : ∀ z ∈ cs, bits z ≤ 1048576) :
    ∃ T k p n ts, i__law_tasks [v] S = .ok (.ref k) (S ++ T) ∧ (S ++ T)[k]? = some (.tup [vN n, .ref p]) ∧ S.length ≤ p ∧ TL (S ++ T) p n ts ∧ 2 ≤ n ∧ n ≤ 60 ∧ ts.length = cs.length := by
  have hsum := sum_bits hb
  generalize hw : cs.sum = w at *
  have hm : ((max 2 (cs.length * 2 / 3) : Nat) : Int) = max 2 ((cs.length : Int) * 2 / 3) := by omega
  obtain ⟨L8, hL8⟩ : ∃ L8, L8 = [vN 2, vN 3, vN 5, vN 9, vN 20, vN 60, vN 4, vN (max 2 (cs.length * 2 / 3))] := ⟨_, rfl⟩
  obtain ⟨n, h2, h60, hn⟩ : ∃ n : Nat, 2 ≤ n ∧ n ≤ 60 ∧ atI L8 (w / 3 % 8) = some (vN n) := by
    obtain ⟨j, hj, e⟩ := emod_nat (w / 3) 8 (by omega)
    rw [show ((8 : Nat) : Int) = 8 from rfl] at e
    rw [e]
    have hj' : j = 0 ∨ j = 1 ∨ j = 2 ∨ j = 3 ∨ j = 4 ∨ j = 5 ∨ j = 6 ∨ j = 7 := by omega
    rcases hj' with rfl | rfl | rfl | rfl | rfl | rfl | rfl | rfl
    · exact ⟨2, by omega, by omega, atI_nat' (by rw [hL8]; rfl)⟩
    · exact ⟨3, by omega, by omega, atI_nat' (by rw [hL8]; rfl)⟩
    · exact ⟨5, by omega, by omega, atI_nat' (by rw [hL8]; rfl)⟩
    · exact ⟨9, by omega, by omega, atI_nat' (by rw [hL8]; rfl)⟩
    · exact ⟨20, by omega, by omega, atI_nat' (by rw [hL8]; rfl)⟩
    · exact ⟨60, by omega, by omega, atI_nat' (by rw [hL8]; rfl)⟩
    · exact ⟨4, by omega, by omega, atI_nat' (by rw [hL8]; rfl)⟩
    · exact ⟨max 2 (cs.length * 2 / 3), by omega, by omega, atI_nat' (by rw [hL8]; rfl)⟩
  obtain ⟨S1, hS1⟩ : ∃ S1, S1 = S ++ [Ob.lst (cs.map .int), Ob.tup L8] := ⟨_, rfl⟩
  have hS1l : S1.length = S.length + 2 := by rw [hS1]; simp
  have hcell : S1[S.length]? = some (.lst (cs.map .int)) := by rw [hS1]; exact get_n0
  have c1 : fSum [.ref S.length] (S ++ [Ob.lst (cs.map .int)]) = .ok (.int w) (S ++ [Ob.lst (cs.map .int)]) := by
    simp only [fSum, getL_ref get_n0, Option.bind_some, asIs_I, hw]
  have c2 : fLen [.ref S.length] (S ++ [Ob.lst (cs.map .int)]) = .ok (.int cs.length) (S ++ [Ob.lst (cs.map .int)]) := by
    simp only [fLen, getQ_lst get_n0, List.length_map]
  have c3 : fMul (.int (cs.length : Int)) (.int 2) (S ++ [Ob.lst (cs.map .int)]) = .ok (.int ((cs.length : Int) * 2)) (S ++ [Ob.lst (cs.map .int)]) := fMul_ii (mulOk_nat (y := 2) (by omega) (by omega))
  have c4 : fDiv (.int ((cs.length : Int) * 2)) (.int 3) (S ++ [Ob.lst (cs.map .int)]) = .ok (.int ((cs.length : Int) * 2 / 3)) (S ++ [Ob.lst (cs.map .int)]) := by simp [fDiv]
  have c5 : fMax [.int 2, .int ((cs.length : Int) * 2 / 3)] (S ++ [Ob.lst (cs.map .int)]) = .ok (vN (max 2 (cs.length * 2 / 3))) (S ++ [Ob.lst (cs.map .int)]) := by
    simp only [fMax]; rw [← hm]; rfl
  have c6 : ∀ S', fDiv (.int w) (.int 3) S' = .ok (.int (w / 3)) S' := fun S' => by simp [fDiv]
  have c7 : ∀ S', fMod (.int (w / 3)) (.int 8) S' = .ok (.int (w / 3 % 8)) S' := fun S' => by simp [fMod]
  have c8 : fIx (.ref (S.length + 1)) (.int (w / 3 % 8)) S1 = .ok (vN n) S1 := by
    have : S1[S.length + 1]? = some (.tup L8) := by rw [hS1]; exact get_n1
    simp only [fIx, getQ_tup this, hn]
  obtain ⟨ρ', S', d1, ts, vs, x5, x6, x7, x8, x9, d2, d3, d4, d5, d6⟩ := for_nx (chk := sameAt (S1 ++ [.lst []]) (.ref S.length)) (tg := tgTupN 2 [tgName 5, tgName 6]) (body := ltB)
    (fun k ρ S' => ∃ ts vs x5 x6 x7 x8 x9, ρ = [some v, some (.ref S.length), some (.int w), some (vN n), some (.ref S1.length), x5, x6, x7, x8, x9] ∧ (∃ G, S' = S1 ++ .lst vs :: G) ∧ Tks S' vs ts ∧ GT n ts ∧ ts.length = k) (enuI 0 (cs.map .int))
    [some v, some (.ref S.length), some (.int w), some (vN n), some (.ref S1.length), none, none, none, none, none] (S1 ++ [.lst []])
    ⟨[], [], none, none, none, none, none, rfl, ⟨[], rfl⟩, .nil, fun t h => (by cases h), rfl⟩
    (fun j it ρ S' hj ⟨ts, vs, x5, x6, x7, x8, x9, e1, ⟨G, e2⟩, e3, e4, e5⟩ => by
      subst e1
      obtain ⟨x, z1, rfl⟩ := enuI_get0 hj
      obtain ⟨c, z2, rfl⟩ := map_get z1
      have hjl : j < cs.length := (List.getElem?_eq_some_iff.mp z2).1
      have hlen := Paired.len e3
      have hf : S'[S1.length]? = some (.lst vs) := by rw [e2]; exact get_n0
      obtain ⟨a, b, x7', x8', x9', q1, q2, q3⟩ := lt_body (x0 := some v) (x1 := some (.ref S.length)) (x7 := x7) (x8 := x8) (x9 := x9) (j := j) (hb c (List.mem_of_getElem? z2)) (show bits w ≤ 1048700 by omega) (by omega) h2 h60 hf (by omega)
      refine ⟨by rw [e2]; exact sameAt_app2 hcell, _, _, rfl, _, _, q3, ts ++ [(a, b)], vs ++ [.ref S'.length], _, _, _, _, _, rfl, ⟨G ++ [.tup [vN a, vN b]], ?_⟩, ?_, ?_, by simp [e5]⟩
      · have : S1.length < S'.length := glt hf
        rw [List.set_append_left _ _ this, e2, set_n0, List.append_assoc]; rfl
      · refine Paired.append (Tks.tup e3 (tup_app.trans (tup_set (get_app hf)))) (.cons ⟨S'.length, rfl, ?_⟩ .nil)
        rw [gs (by have := glt hf; omega)]
        exact get_n0
      · intro t ht
        rcases List.mem_append.mp ht with h | h
        · exact e4 t h
        · rw [List.mem_singleton] at h; subst h; exact ⟨q1, q2⟩)
    (fun ρ S' ⟨ts, vs, x5, x6, x7, x8, x9, e1, ⟨G, e2⟩, _⟩ => by rw [e2]; exact sameAt_app2 hcell)
  obtain ⟨G, hG⟩ := d3
  rw [enuI_length, List.length_map] at d6
  have lc : getL (S1 ++ [.lst []]) (.ref S.length) = some (cs.map .int) := getL_ref (get_app hcell)
  refine ⟨[Ob.lst (cs.map .int), Ob.tup L8, .lst vs] ++ G ++ [.tup [vN n, .ref S1.length]], S'.length, S1.length, n, ts, ?_, ?_, by omega, ?_, h2, h60, d6⟩
  · subst d2
    simp only [i__law_tasks, mk1, List.replicate]
    simp only [x_seq, x_asg, x_sl, x_var, List.getElem?_cons_zero, List.getElem?_cons_succ, R.bind_ok, x_noPart, x_part, x_c, hv, cut63 cs hl, R.toO_ok, x_tgName, List.set, O.seq_nx, x_cb, x_cons, x_nil, c1, x_op, x_tup, c2, c3, c4, c5, c6, c7]
    have e1 : S ++ [Ob.lst (cs.map .int)] ++ [Ob.tup [.int 2, .int 3, .int 5, .int 9, .int 20, .int 60, .int 4, vN (max 2 (cs.length * 2 / 3))]] = S1 := by rw [hS1, hL8, List.append_assoc]; rfl
    have e2 : (S ++ [Ob.lst (cs.map Va.int)]).length = S.length + 1 := by simp
    rw [e1, e2]
    simp only [c8, R.toO_ok, x_tgName, List.set, O.seq_nx, x_seq, x_asg, x_lst, x_nil, R.bind_ok, x_for, x_itEnum, x_var, List.getElem?_cons_zero, List.getElem?_cons_succ, lc, d1, x_ret, x_tup, x_cons, x_val_rt]
    rw [hG, hS1]
    simp
  · have : S ++ ([Ob.lst (cs.map .int), Ob.tup L8, .lst vs] ++ G ++ [.tup [vN n, .ref S1.length]]) = S' ++ [.tup [vN n, .ref S1.length]] := by rw [hG, hS1]; simp
    rw [this]; exact get_n0
  · have : S ++ ([Ob.lst (cs.map .int), Ob.tup L8, .lst vs] ++ G ++ [.tup [vN n, .ref S1.length]]) = S' ++ [.tup [vN n, .ref S1.length]] := by rw [hG, hS1]; simp
    rw [this]
    exact TL.app ⟨⟨vs, by rw [hG]; exact get_n0, d4⟩, d5⟩
end IL

end
section
set_option linter.all false
set_option maxRecDepth 100000
set_option maxHeartbeats 1000000
namespace IL
open PySem L2
noncomputable abbrev lsB : IS := (sSeq (sAsg (iCall i__law_number (iCons (iOp fIx (iVar 3) (iVar 6)) (iCons (iOp fAdd (iVar 6) (iOp fMul (iC (.int 63)) (iVar 2))) (iCons (iVar 4) iNil)))) (tgName 8))
  (sExpr (iBM mAppend (iVar 5) (iCons (iOp fIx (iVar 7) (iOp fMod (iOp fDiv (iVar 8) (iOp fIx (IL.iTup (iCons (iC (.int 10007)) (iCons (iC (.int 196613)) iNil))) (iVar 2))) (iC (.int 2)))) iNil))))
theorem ls_body {S : Sto} {p j f q by_ : Nat} {w : Int} {cs : List Int} {c : Int} {t : Nat × Nat} {sh : List Nat} {x0 x1 x8 : Option Va} (hcs : S[p]? = some (.lst (cs.map .int))) (hc : cs[j]? = some c) (hbc : bits c ≤ 1048576) (hw : bits w ≤ 1048700) (hj : j ≤ 63) (hby : by_ ≤ 1) (hq : S[q]? = some (.tup [vN t.1, vN t.2])) (hf : S[f]? = some (LN sh)) (hl : sh.length < 1000) :
    ∃ x x8', (x = t.1 ∨ x = t.2) ∧ lsB [x0, x1, some (vN by_), some (.ref p), some (.int w), some (.ref f), some (vN j), some (.ref q), x8] S = .nx [x0, x1, some (vN by_), some (.ref p), some (.int w), some (.ref f), some (vN j), some (.ref q), x8'] ((S ++ [Ob.tup [.int 10007, .int 196613]]).set f (LN (sh ++ [x]))) := by
  obtain ⟨z, hz⟩ := number_ok (S := S) (c := c) (a := (j : Int) + 63 * (by_ : Int)) (w := w) hbc (by omega) (by omega) hw
  have c1 : fIx (.ref p) (vN j) S = .ok (.int c) S := fIx_lst hcs (by rw [List.getElem?_map, hc]; rfl)
  have c2 : fMul (.int 63) (vN by_) S = .ok (.int (63 * (by_ : Int))) S := fMul_ii (mulOk_nat (x := 63) (by omega) (by omega))
  have c3 : fAdd (vN j) (.int (63 * (by_ : Int))) S = .ok (.int ((j : Int) + 63 * (by_ : Int))) S := rfl
  obtain ⟨S2, hS2⟩ : ∃ S2, S2 = S ++ [Ob.tup [.int 10007, .int 196613]] := ⟨_, rfl⟩
  obtain ⟨d, hd, hd2, c4⟩ : ∃ d : Int, 0 < d ∧ d < 1073741824 ∧ fIx (.ref S.length) (vN by_) S2 = .ok (.int d) S2 := by
    have h0 : S2[S.length]? = some (.tup [.int 10007, .int 196613]) := by rw [hS2]; exact get_n0
    have : by_ = 0 ∨ by_ = 1 := by omega
    rcases this with rfl | rfl
    · exact ⟨10007, by omega, by omega, fIx_tup h0 rfl⟩
    · exact ⟨196613, by omega, by omega, fIx_tup h0 rfl⟩
  have c5 : fDiv (.int z) (.int d) S2 = .ok (.int (z / d)) S2 := by simp only [fDiv]; rw [if_pos ⟨hd, hd2⟩]
  obtain ⟨b, hb, e⟩ := emod_nat (z / d) 2 (by omega)
  rw [show ((2 : Nat) : Int) = 2 from rfl] at e
  have c6 : fMod (.int (z / d)) (.int 2) S2 = .ok (vN b) S2 := by simp only [fMod, vN]; rw [if_pos (by omega), e]
  have hq2 : S2[q]? = some (.tup [vN t.1, vN t.2]) := by rw [hS2]; exact get_app hq
  have hf2 : S2[f]? = some (LN sh) := by rw [hS2]; exact get_app hf
  obtain ⟨x, hx, c7⟩ : ∃ x, (x = t.1 ∨ x = t.2) ∧ fIx (.ref q) (vN b) S2 = .ok (vN x) S2 := by
    have : b = 0 ∨ b = 1 := by omega
    rcases this with rfl | rfl
    · exact ⟨t.1, .inl rfl, fIx_tup hq2 rfl⟩
    · exact ⟨t.2, .inr rfl, fIx_tup hq2 rfl⟩
  have c8 := mAppend_LN (x := x) hf2 (by omega)
  refine ⟨x, some (.int z), hx, ?_⟩
  rw [← hS2]
  simp only [x_seq, x_asg, x_call, x_cons, x_op, x_nil, x_var, List.getElem?_cons_succ, List.getElem?_cons_zero, R.bind_ok, x_c, c1, c2, c3, hz, R.toO_ok, x_tgName, List.set, O.seq_nx, x_expr, x_bm, getL_LN hf, x_tup, ← hS2, c4, c5, c6, c7, c8]
theorem sharing_ok {S : Sto} {v : Va} {cs : List Int} {p n by_ : Nat} {ts : List (Nat × Nat)} (hv : getL S v = some (cs.map .int)) (hl : cs.length ≤ 63) (hb : ∀ z ∈ cs, bits z ≤ 1048576) (ht : TL S p n ts) (htl : ts.length = cs.length) (hby : by_ ≤ 1) :
    ∃ T k sh, i__law_sharing [v, .ref p, vN by_] S = .ok (.ref k) (S ++ T) ∧ (S ++ T)[k]? = some (LN sh) ∧ S.length ≤ k ∧ GS ts sh := by
  have hsum := sum_bits hb
  generalize hw : cs.sum = w at *
  obtain ⟨us, hp, hu⟩ := ht.ex
  have hul := Paired.len hu
  obtain ⟨S1, hS1⟩ : ∃ S1, S1 = S ++ [Ob.lst (cs.map .int)] := ⟨_, rfl⟩
  have hS1l : S1.length = S.length + 1 := by rw [hS1]; simp
  have hcell : S1[S.length]? = some (.lst (cs.map .int)) := by rw [hS1]; exact get_n0
  have hp1 : S1[p]? = some (.lst us) := by rw [hS1]; exact get_app hp
  have hu1 : Tks S1 us ts := by rw [hS1]; exact hu.app
  have c1 : fSum [.ref S.length] S1 = .ok (.int w) S1 := by
    simp only [fSum, getL_ref hcell, Option.bind_some, asIs_I, hw]
  obtain ⟨ρ', S', d1, sh, x6, x7, x8, d2, ⟨G, d3⟩, d4, d5⟩ := for_nx (chk := sameAt (S1 ++ [.lst []]) (.ref p)) (tg := tgTupN 2 [tgName 6, tgName 7]) (body := lsB)
    (fun k ρ S' => ∃ sh x6 x7 x8, ρ = [some v, some (.ref p), some (vN by_), some (.ref S.length), some (.int w), some (.ref S1.length), x6, x7, x8] ∧ (∃ G, S' = S1 ++ LN sh :: G) ∧ GS (ts.take k) sh ∧ sh.length = k) (enuI 0 us)
    [some v, some (.ref p), some (vN by_), some (.ref S.length), some (.int w), some (.ref S1.length), none, none, none] (S1 ++ [.lst []])
    ⟨[], none, none, none, rfl, ⟨[], rfl⟩, .nil, rfl⟩
    (fun j it ρ S' hj ⟨sh, x6, x7, x8, e1, ⟨G, e2⟩, e3, e4⟩ => by
      subst e1
      obtain ⟨x, z1, rfl⟩ := enuI_get0 hj
      obtain ⟨t, z2, q, rfl, hq⟩ := Paired.get hu1 z1
      have hjl : j < ts.length := (List.getElem?_eq_some_iff.mp z2).1
      have hcj : cs[j]? = some cs[j] := by simp [show j < cs.length by omega]
      have hf : S'[S1.length]? = some (LN sh) := by rw [e2]; exact get_n0
      obtain ⟨x, x8', q1, q2⟩ := ls_body (x0 := some v) (x1 := some (.ref p)) (x8 := x8) (j := j) (by_ := by_) (w := w) (p := S.length) (q := q) (t := t) (by rw [e2]; exact get_app hcell) hcj (hb _ (List.getElem_mem _)) (by omega) (by omega) hby (by rw [e2]; exact get_app hq) hf (by omega)
      refine ⟨by rw [e2]; exact sameAt_app2 hp1, _, _, rfl, _, _, q2, sh ++ [x], _, _, _, rfl, ⟨G ++ [.tup [.int 10007, .int 196613]], ?_⟩, ?_, by simp [e4]⟩
      · have : S1.length < S'.length := glt hf
        rw [List.set_append_left _ _ this, e2, set_n0, List.append_assoc]; rfl
      · rw [List.take_add_one, z2]
        exact Paired.append e3 (.cons q1 .nil))
    (fun ρ S' ⟨sh, x6, x7, x8, e1, ⟨G, e2⟩, _⟩ => by rw [e2]; exact sameAt_app2 hp1)
  rw [enuI_length, hul, List.take_length] at d4
  have lc : getL (S1 ++ [.lst []]) (.ref p) = some us := getL_ref (get_app hp1)
  refine ⟨[Ob.lst (cs.map .int), LN sh] ++ G, S1.length, sh, ?_, ?_, by omega, d4⟩
  · subst d2
    simp only [i__law_sharing, mk3, List.replicate]
    simp only [x_seq, x_asg, x_sl, x_var, List.getElem?_cons_zero, List.getElem?_cons_succ, R.bind_ok, x_noPart, x_part, x_c, hv, cut63 cs hl, R.toO_ok, x_tgName, List.set, O.seq_nx, ← hS1, x_cb, x_cons, x_nil, c1, x_lst, x_for, x_itEnum, lc, d1, x_ret, x_val_rt]
    rw [d3, hS1]
    simp
  · have : S ++ ([Ob.lst (cs.map .int), LN sh] ++ G) = S' := by rw [d3, hS1]; simp
    rw [this, d3]; exact get_n0
/-! ### the law's own loads, wholes, second -/
theorem law_loads_ok {S : Sto} {q n : Nat} {sh : List Nat} (hq : S[q]? = some (LN sh)) (hx : ∀ x ∈ sh, x < n) (hn : n ≤ 1000) : i__law_loads [vN n, .ref q] S = .ok (.ref (S.length + 1)) (S ++ [.lst [.int 0], LN (loadsN n sh)]) := by
  have hq' : ∀ T, (S ++ T)[q]? = some (LN sh) := fun T => get_app hq
  have c0 : fMul (.ref S.length) (vN n) (S ++ [.lst [.int 0]]) = .ok (.ref (S.length + 1)) (S ++ [.lst [.int 0], .lst (List.replicate n (.int 0))]) := by
    have := fMul_rep1 (S := S ++ [.lst [.int 0]]) (p := S.length) (n := n) get_n0 (by omega)
    rw [show vN n = .int n from rfl, this]; simp
  obtain ⟨ρ', S', h1, w, h2, h3⟩ := for_nx (chk := sameAt (S ++ [.lst [.int 0], .lst (List.replicate n (.int 0))]) (.ref q)) (tg := tgName 3) (body := sAsg (iOp fAdd (iOp fIx (iVar 2) (iVar 3)) (iC (.int 1))) (tgSub (iVar 2) (iVar 3)))
    (fun k ρ S' => ∃ w, ρ = [some (vN n), some (.ref q), some (.ref (S.length + 1)), w] ∧ S' = S ++ [.lst [.int 0], LN (loadsN n (sh.take k))]) ((sh.map vN).map .one) [some (vN n), some (.ref q), some (.ref (S.length + 1)), none] (S ++ [.lst [.int 0], .lst (List.replicate n (.int 0))])
    ⟨none, rfl, by rw [List.take_zero, loadsN_nil]; simp [LN, vN]⟩
    (fun j it ρ S' hj ⟨w, e1, e2⟩ => by
      subst e1 e2
      obtain ⟨v, z1, rfl⟩ := map_one_get hj
      obtain ⟨x, z2, rfl⟩ := map_get z1
      have hxn : x < n := hx x (List.mem_of_getElem? z2)
      refine ⟨sameAt_app2 hq, _, _, rfl, [some (vN n), some (.ref q), some (.ref (S.length + 1)), some (vN x)], S ++ [.lst [.int 0], LN (loadsN n (sh.take (j + 1)))], ?_, _, rfl, rfl⟩
      have hl : (S ++ [Ob.lst [Va.int 0], LN (loadsN n (sh.take j))])[S.length + 1]? = some (.lst ((loadsN n (sh.take j)).map vN)) := get_n1
      have g1 := fIx_lst (k := x) hl (vN_get (loadsN_get hxn))
      have g2 := setL_lst (k := x) (v := vN ((sh.take j).count x + 1)) hl (by rw [List.length_map, loadsN_length]; exact hxn)
      rw [LN_set, ← loadsN_snoc hxn, set_n1] at g2
      have e : sh.take j ++ [x] = sh.take (j + 1) := by rw [List.take_add_one, z2]; rfl
      rw [e] at g2
      have g1' : fIx (.ref (S.length + 1)) (vN x) (S ++ [Ob.lst [Va.int 0], LN (loadsN n (sh.take j))]) = .ok (.int ((sh.take j).count x : Nat)) (S ++ [Ob.lst [Va.int 0], LN (loadsN n (sh.take j))]) := g1
      have g2' : setL (.ref (S.length + 1)) (vN x) (.int (((sh.take j).count x : Nat) + 1)) (S ++ [Ob.lst [Va.int 0], LN (loadsN n (sh.take j))]) = .ok () (S ++ [Ob.lst [Va.int 0], LN (loadsN n (sh.take (j + 1)))]) := g2
      simp [g1', g2'])
    (fun ρ S' ⟨w, e1, e2⟩ => by subst e2; exact sameAt_app2 hq)
  rw [List.length_map, List.length_map, List.take_length] at h3
  subst h2 h3
  simp only [i__law_loads, mk2, List.replicate]
  simp [c0, getL, hq', LN] at h1 ⊢
  simp [h1]
theorem wholes_ok {S : Sto} {q : Nat} {xs : List Int} (hq : S[q]? = some (.lst (xs.map .int))) (hl : xs.length ≤ 100000) : i__law_wholes [.ref q] S = .ok (.bl true) (S ++ [.lst (xs.map fun _ => .bl true)]) := by
  have c1 := lcr_run0 (ii := itList (iVar 0)) (tg := tgName 1) (tt := iYes) (ie := iAndV (iCB fIsi (iCons (iVar 1) (iCons (iC (.ty "int")) iNil))) (iNotV (iCB fIsi (iCons (iVar 1) (iCons (iC (.ty "bool")) iNil))))) (vs := [1]) (ρ := [some (.ref q), none]) (S := S) (its := (xs.map .int).map .one) (os := xs.map fun x => some (.bl true)) (chk := sameAt S (.ref q))
    (by simp [getL_ref hq]) (by simp; exact hl) sameAt_self (Paired.of_get (by simp) fun k it o h1 h2 => by
      obtain ⟨v, e1, rfl⟩ := map_one_get h1
      obtain ⟨x, e2, rfl⟩ := map_get e1
      obtain ⟨x', e3, rfl⟩ := map_get h2
      refine ⟨_, rfl, rfl, fun y hy => ?_⟩
      cases hy
      simp [tyB, kit_ii, kit_ib])
  rw [fmap_some] at c1
  have b1 := asBs_B (fun _ : Int => true) xs
  simp only [i__law_wholes, mk1, List.replicate]
  simp [tyB, hq, kit_ll] at c1 ⊢
  simp [c1, fAll, getL_ref get_n0, b1]
theorem second_ok {S : Sto} {q : Nat} {a b : Nat} {x : Nat} (hq : S[q]? = some (.tup [vN a, vN b])) (hx : x = a ∨ x = b) : i__law_second [.ref q, vN x] S = .ok (vN (a + b - x)) S := by
  have c1 : fIx (.ref q) (.int 0) S = .ok (vN a) S := fIx_tup (k := 0) hq rfl
  have c2 : fIx (.ref q) (.int 1) S = .ok (vN b) S := fIx_tup (k := 1) hq rfl
  simp only [i__law_second, mk2, List.replicate]
  simp [c1, c2, vN]
  omega
end IL

end
section
set_option linter.all false
set_option maxRecDepth 100000
set_option maxHeartbeats 1000000
namespace IL
open PySem L2 MR
theorem eqvAll_self : ∀ {xs : List PyData}, (∀ x ∈ xs, PyData.eqv x x = true) → PyData.eqvAll xs xs = true
  | [], _ => by simp [PyData.eqvAll]
  | x :: xs, h => by
    rw [PyData.eqvAll, h x List.mem_cons_self, eqvAll_self fun y hy => h y (List.mem_cons_of_mem _ hy)]; rfl
def pT (t : Nat × Nat) : PyData := .tuple [.int t.1, .int t.2]
def pL (xs : List Nat) : PyData := .list (xs.map fun (x : Nat) => .int x)
def pTs (ts : List (Nat × Nat)) : PyData := .list (ts.map pT)
theorem pL_self (xs : List Nat) : PyData.eqv (pL xs) (pL xs) = true := by
  unfold pL; rw [PyData.eqv]
  exact eqvAll_self fun x hx => by obtain ⟨y, _, rfl⟩ := List.mem_map.mp hx; simp [PyData.eqv]
theorem pTs_self (ts : List (Nat × Nat)) : PyData.eqv (pTs ts) (pTs ts) = true := by
  unfold pTs; rw [PyData.eqv]
  refine eqvAll_self fun x hx => ?_
  obtain ⟨y, _, rfl⟩ := List.mem_map.mp hx
  simp [pT, PyData.eqv, PyData.eqvAll]
theorem toP_LN {S : Sto} {q k : Nat} {xs : List Nat} (h : S[q]? = some (LN xs)) : toP (k + 1) S (.ref q) = some (pL xs) := by
  unfold LN at h
  simp only [toP, h, toP_N, pL]
theorem allO_rel {α β : Type} {f : α → Option β} : ∀ {xs : List α} {ys : List β}, Paired (fun x y => f x = some y) xs ys → allO (xs.map f) = some ys
  | _, _, .nil => rfl
  | _, _, .cons h r => by
    rw [List.map_cons, h]; unfold allO; rw [allO_rel r]
theorem Paired.mapR {α β γ : Type} {F : α → γ → Prop} {f : β → γ} : ∀ {xs : List α} {ys : List β}, Paired (fun x y => F x (f y)) xs ys → Paired F xs (ys.map f)
  | _, _, .nil => .nil
  | _, _, .cons h r => .cons h (Paired.mapR r)
theorem Paired.mapL {α β γ : Type} {F : γ → β → Prop} {f : α → γ} : ∀ {xs : List α} {ys : List β}, Paired (fun x y => F (f x) y) xs ys → Paired F (xs.map f) ys
  | _, _, .nil => .nil
  | _, _, .cons h r => .cons h (Paired.mapL r)
theorem toP_Tks {S : Sto} {p k : Nat} {vs : List Va} {ts : List (Nat × Nat)} (hp : S[p]? = some (.lst vs)) (ht : Tks S vs ts) : toP (k + 2) S (.ref p) = some (pTs ts) := by
  have : allO (vs.map (toP (k + 1) S)) = some (ts.map pT) := allO_rel (Paired.mapR (Paired.imp (fun v t ⟨q, e, h⟩ => by
    subst e
    simp [toP, h, allO, vN, pT]) ht))
  simp only [toP, hp, this, pTs]
theorem fNe_of {S : Sto} {x y : Va} {d : PyData} (hx : toP 9 S x = some d) (hy : toP 9 S y = some d) (h : PyData.eqv d d = true) : fNe x y S = .ok (.bl false) S := by simp only [fNe, hx, hy, h]; rfl
theorem fEq_of {S : Sto} {x y : Va} {d : PyData} (hx : toP 9 S x = some d) (hy : toP 9 S y = some d) (h : PyData.eqv d d = true) : fEq x y S = .ok (.bl true) S := by simp only [fEq, hx, hy, h]
theorem fEq_LN {S : Sto} {p q : Nat} {xs ys : List Nat} (h : S[p]? = some (LN xs)) (hq : S[q]? = some (LN ys)) : fEq (.ref p) (.ref q) S = .ok (.bl (decide (xs = ys))) S := by
  unfold LN at h hq
  simp only [fEq, toP, h, hq, toP_N, PyData.eqv, eqv_N]
theorem LN_nil : LN [] = .lst [] := rfl
/-- the ring's look -/
noncomputable abbrev rgBody : IS := (sSeq (sIf (IL.iOr (iNot (iB (iCall i__law_wholes (iCons (iVar 8) iNil)))) (IL.iOr (iB (iOp fEq (iVar 8) (iLst iNil))) (iNot (iB (iCB fAll (iCons (iLc (itList (iVar 8)) (tgName 11) iYes (iChain fLe fLt (iC (.int 0)) (iVar 11) (iCB fLen (iCons (iVar 1) iNil))) [11]) iNil)))))) (sRet (iC (.bl false))) sNext)
  (sSeq (sAsg (iLc (itList (iVar 8)) (tgName 11) iYes (iOp fIx (iVar 2) (iVar 11)) [11]) (tgName 9))
  (sSeq (sIf (iB (iOp fNe (iCB fLenSet (iCons (iVar 9) iNil)) (iCB fLen (iCons (iVar 9) iNil)))) (sRet (iC (.bl false))) sNext)
  (sSeq (sIf (iB (iOp fNe (iLc (itList (iVar 8)) (tgName 11) iYes (iCall i__law_second (iCons (iOp fIx (iVar 1) (iVar 11)) (iCons (iOp fIx (iVar 2) (iVar 11)) iNil))) [11]) (iOp fAdd (iSl (iVar 9) (iPart (iC (.int 1))) iNoPart) (iSl (iVar 9) iNoPart (iPart (iC (.int 1))))))) (sRet (iC (.bl false))) sNext)
  (sAsg (iOp fAdd (iVar 7) (iVar 8)) (tgName 7))))))
theorem natInt_nodup {xs : List Nat} (h : xs.Nodup) : (xs.map fun (x : Nat) => (x : Int)).Nodup := List.Pairwise.map _ (fun a b hab => by omega) h
theorem fAdd_LN {S : Sto} {p q : Nat} {xs ys : List Nat} (h : S[p]? = some (LN xs)) (hq : S[q]? = some (LN ys)) (hl : xs.length + ys.length ≤ 100000) : fAdd (.ref p) (.ref q) S = .ok (.ref S.length) (S ++ [LN (xs ++ ys)]) := by
  unfold LN at h hq ⊢
  simp only [fAdd, h, hq, List.length_map]
  rw [if_pos hl, List.map_append]
theorem fNe_nat {S : Sto} {x y : Nat} : fNe (.int (x : Int)) (.int (y : Int)) S = .ok (.bl (!decide (x = y))) S := fNe_N
/-- [e(at) for at in l], ints -/
theorem lc_N {S : Sto} {a j : Nat} {l : List Nat} {f : Nat → Va} {ie : IE} {ρ : Env} {ii : IE} (hi : ii ρ S = .ok (.ref a) S) (ha : S[a]? = some (LN l)) (hl : l.length ≤ 100000) (he : ∀ x ∈ l, ie ((wipeE ρ [j]).set j (some (vN x))) S = .ok (f x) S) :
    iLc (itList ii) (tgName j) iYes ie [j] ρ S = .ok (.ref S.length) (S ++ [.lst (l.map f)]) := by
  have := lcr_run0 (ii := itList ii) (tg := tgName j) (tt := iYes) (ie := ie) (vs := [j]) (ρ := ρ) (S := S) (its := (l.map vN).map .one) (os := l.map fun x => some (f x)) (chk := sameAt S (.ref a))
    (by simp only [x_itList, hi, R.bind_ok, getL_LN ha]) (by simp; exact hl) sameAt_self (Paired.of_get (by simp) fun k it o h1 h2 => by
      obtain ⟨v, e1, rfl⟩ := map_one_get h1
      obtain ⟨x, e2, rfl⟩ := map_get e1
      obtain ⟨x', e3, rfl⟩ := map_get h2
      rw [e2] at e3; cases e3
      exact ⟨_, rfl, rfl, fun y hy => by cases hy; exact he x (List.mem_of_getElem? e2)⟩)
  rw [fmap_some] at this
  exact this
theorem ring_look {S : Sto} {n p q r a se : Nat} {ts : List (Nat × Nat)} {sh : List Nat} {l sn : List Nat} {x0 x4 x5 x6 x9 x10 x11 : Option Va} {x3 : Option Va} (ht : TL S p n ts) (hq : S[q]? = some (LN sh)) (hs : GS ts sh) (ha : S[a]? = some (LN l)) (hse : S[se]? = some (LN sn))
    (h1 : l ≠ []) (h2 : ∀ t ∈ l, t < ts.length) (h3 : (l.map fun t => sh.getD t 0).Nodup) (h4 : (l.map fun t => (ts.getD t (0, 0)).1 + (ts.getD t (0, 0)).2 - sh.getD t 0) = (l.map fun t => sh.getD t 0).drop 1 ++ (l.map fun t => sh.getD t 0).take 1) (hl : l.length ≤ 1000) (hsn : sn.length ≤ 50000) :
    ∃ T x9' se', rgBody [x0, some (.ref p), some (.ref q), x3, x4, x5, x6, some (.ref se), some (.ref a), x9, x10, x11] S = .nx [x0, some (.ref p), some (.ref q), x3, x4, x5, x6, some (.ref se'), some (.ref a), x9', x10, x11] (S ++ T) ∧ (S ++ T)[se']? = some (LN (sn ++ l)) := by
  have hls := Paired.len hs
  obtain ⟨vs, hp, hv⟩ := ht.ex
  have hvl := Paired.len hv
  have hget : ∀ t ∈ l, sh[t]? = some (sh.getD t 0) := fun t h => by have := h2 t h; simp [List.getD, show t < sh.length by omega]
  have hsec : ∀ t ∈ l, ∃ v, vs[t]? = some v ∧ TpN S v (ts.getD t (0, 0)) ∧ (sh.getD t 0 = (ts.getD t (0, 0)).1 ∨ sh.getD t 0 = (ts.getD t (0, 0)).2) := fun t h => by
    have h' := h2 t h
    have e1 : ts[t]? = some (ts.getD t (0, 0)) := by simp [List.getD, h']
    obtain ⟨v, e2, e3⟩ := Paired.getR hv e1
    obtain ⟨y, e4, e5⟩ := Paired.get hs e1
    rw [hget t h] at e4; cases e4
    exact ⟨v, e2, e3, e5⟩
  -- 1 wholes
  have aI : S[a]? = some (.lst ((l.map fun (x : Nat) => (x : Int)).map .int)) := by rw [ha, LN, map_vN]
  have c1 := wholes_ok aI (by rw [List.length_map]; omega)
  generalize hA1 : S ++ [Ob.lst ((l.map fun (x : Nat) => (x : Int)).map fun _ => Va.bl true)] = A1 at *
  have k1 : ∀ {i : Nat} {o : Ob}, S[i]? = some o → A1[i]? = some o := fun e => by rw [← hA1]; exact get_app e
  -- 2 == []
  have c2 := fEq_LN (get_app (T := [.lst []]) (k1 ha)) (show (A1 ++ [Ob.lst []])[A1.length]? = some (LN []) from get_n0)
  rw [decide_eq_false h1] at c2
  generalize hA2 : A1 ++ [Ob.lst []] = A2 at *
  have k2 : ∀ {i : Nat} {o : Ob}, S[i]? = some o → A2[i]? = some o := fun e => by rw [← hA2]; exact get_app (k1 e)
  -- 3 all within
  have clen : fLen [.ref p] A2 = .ok (.int ts.length) A2 := by simp only [fLen, getQ_lst (k2 hp), hvl]
  have c3 := lc_N (S := A2) (a := a) (j := 11) (l := l) (f := fun _ => .bl true) (ie := iChain fLe fLt (iC (.int 0)) (iVar 11) (iCB fLen (iCons (iVar 1) iNil))) (ρ := [x0, some (.ref p), some (.ref q), x3, x4, x5, x6, some (.ref se), some (.ref a), x9, x10, x11]) (ii := iVar 8) rfl (k2 ha) (by omega) (fun x hx => by
    have := h2 x hx
    have e1 : (0 : Int) ≤ x := by omega
    have e2 : (x : Int) < ts.length := by omega
    simp [vN, e1, e2, clen])
  have b3 : asBs (l.map fun _ => Va.bl true) = some (l.map fun _ => true) := asBs_B (fun _ => true) l
  generalize hA3 : A2 ++ [Ob.lst (l.map fun _ => Va.bl true)] = A3 at *
  have k3 : ∀ {i : Nat} {o : Ob}, S[i]? = some o → A3[i]? = some o := fun e => by rw [← hA3]; exact get_app (k2 e)
  have c4 : fAll [.ref A2.length] A3 = .ok (.bl true) A3 := by
    have : A3[A2.length]? = some (.lst (l.map fun _ => Va.bl true)) := by rw [← hA3]; exact get_n0
    simp only [fAll, getL_ref this, Option.bind_some, b3]
    rw [show (l.map fun _ => true).all id = true by rw [List.all_map]; simp]
  -- 4 doers
  have c5 := lc_N (S := A3) (a := a) (j := 11) (l := l) (f := fun t => vN (sh.getD t 0)) (ie := iOp fIx (iVar 2) (iVar 11)) (ρ := [x0, some (.ref p), some (.ref q), x3, x4, x5, x6, some (.ref se), some (.ref a), x9, x10, x11]) (ii := iVar 8) rfl (k3 ha) (by omega) (fun x hx => by
    have := fIx_lst (k3 hq) (vN_get (hget x hx))
    simp only [x_op, x_var, x_wipe1, x_wipe0, List.set, List.getElem?_cons_succ, List.getElem?_cons_zero, R.bind_ok]
    exact this)
  have e5 : Ob.lst (l.map fun t => vN (sh.getD t 0)) = LN (l.map fun t => sh.getD t 0) := by unfold LN; rw [List.map_map]; rfl
  rw [e5] at c5
  generalize hd : (l.map fun t => sh.getD t 0) = ds at *
  have hdl : ds.length = l.length := by rw [← hd]; simp
  generalize hA4 : A3 ++ [LN ds] = A4 at *
  have k4 : ∀ {i : Nat} {o : Ob}, S[i]? = some o → A4[i]? = some o := fun e => by rw [← hA4]; exact get_app (k3 e)
  have d4 : A4[A3.length]? = some (LN ds) := by rw [← hA4]; exact get_n0
  have c6 : fLenSet [.ref A3.length] A4 = .ok (.int (ds.length : Int)) A4 := by
    simp only [fLenSet, getL_LN d4, Option.bind_some, asIs_N]
    rw [if_pos (by rw [List.length_map]; omega), dd_of_nodup (natInt_nodup h3), List.length_map]
  have c7 : fLen [.ref A3.length] A4 = .ok (.int (ds.length : Int)) A4 := by
    have d4' := d4
    unfold LN at d4'
    simp only [fLen, getQ_lst d4', List.length_map]
  have c8 : fNe (.int (ds.length : Int)) (.int (ds.length : Int)) A4 = .ok (.bl false) A4 := by rw [fNe_nat]; simp
  -- 5 seconds
  have c9 := lc_N (S := A4) (a := a) (j := 11) (l := l) (f := fun t => vN ((ts.getD t (0, 0)).1 + (ts.getD t (0, 0)).2 - sh.getD t 0)) (ie := iCall i__law_second (iCons (iOp fIx (iVar 1) (iVar 11)) (iCons (iOp fIx (iVar 2) (iVar 11)) iNil))) (ρ := [x0, some (.ref p), some (.ref q), x3, x4, x5, x6, some (.ref se), some (.ref a), some (.ref A3.length), x10, x11]) (ii := iVar 8) rfl (k4 ha) (by omega) (fun x hx => by
    obtain ⟨v, e1, ⟨w, rfl, e2⟩, e3⟩ := hsec x hx
    have g1 : fIx (.ref p) (vN x) A4 = .ok (.ref w) A4 := fIx_lst (k4 hp) e1
    have g2 : fIx (.ref q) (vN x) A4 = .ok (vN (sh.getD x 0)) A4 := fIx_lst (k4 hq) (vN_get (hget x hx))
    have g3 := second_ok (k4 e2) e3
    simp only [x_call, x_cons, x_nil, x_op, x_var, x_wipe1, x_wipe0, List.set, List.getElem?_cons_succ, List.getElem?_cons_zero, R.bind_ok, g1, g2, g3])
  have e9 : Ob.lst (l.map fun t => vN ((ts.getD t (0, 0)).1 + (ts.getD t (0, 0)).2 - sh.getD t 0)) = LN (ds.drop 1 ++ ds.take 1) := by rw [← h4]; unfold LN; rw [List.map_map]; rfl
  rw [e9] at c9
  generalize hA5 : A4 ++ [LN (ds.drop 1 ++ ds.take 1)] = A5 at *
  have k5 : ∀ {i : Nat} {o : Ob}, A4[i]? = some o → A5[i]? = some o := fun e => by rw [← hA5]; exact get_app e
  have d5 : A5[A4.length]? = some (LN (ds.drop 1 ++ ds.take 1)) := by rw [← hA5]; exact get_n0
  have l5 : getL A5 (.ref A3.length) = some (ds.map vN) := getL_LN (k5 d4)
  have l6 : getL (A5 ++ [LN (ds.drop 1)]) (.ref A3.length) = some (ds.map vN) := getL_LN (get_app (k5 d4))
  have cf : Ob.lst (cut (ds.map vN) (some 1) none) = LN (ds.drop 1) := cutf_N ds 1
  have ct : Ob.lst (cut (ds.map vN) none (some 1)) = LN (ds.take 1) := cutt_N ds 1
  have c10 : fAdd (.ref A5.length) (.ref (A5 ++ [LN (ds.drop 1)]).length) (A5 ++ [LN (ds.drop 1)] ++ [LN (ds.take 1)]) = .ok (.ref (A5 ++ [LN (ds.drop 1)] ++ [LN (ds.take 1)]).length) (A5 ++ [LN (ds.drop 1)] ++ [LN (ds.take 1)] ++ [LN (ds.drop 1 ++ ds.take 1)]) :=
    fAdd_LN (get_app get_n0) get_n0 (by simp; omega)
  have c11 := fNe_LN (S := A5 ++ [LN (ds.drop 1)] ++ [LN (ds.take 1)] ++ [LN (ds.drop 1 ++ ds.take 1)]) (p := A4.length) (q := (A5 ++ [LN (ds.drop 1)] ++ [LN (ds.take 1)]).length) (get_app (get_app (get_app d5))) get_n0
  rw [decide_eq_true rfl] at c11
  generalize hA6 : A5 ++ [LN (ds.drop 1)] ++ [LN (ds.take 1)] ++ [LN (ds.drop 1 ++ ds.take 1)] = A6 at *
  have k6 : ∀ {i : Nat} {o : Ob}, S[i]? = some o → A6[i]? = some o := fun e => by rw [← hA6]; exact get_app (get_app (get_app (k5 (k4 e))))
  have c12 := fAdd_LN (k6 hse) (k6 ha) (by omega)
  refine ⟨[Ob.lst ((l.map fun (x : Nat) => (x : Int)).map fun _ => Va.bl true), Ob.lst [], Ob.lst (l.map fun _ => Va.bl true), LN ds, LN (ds.drop 1 ++ ds.take 1), LN (ds.drop 1), LN (ds.take 1), LN (ds.drop 1 ++ ds.take 1), LN (sn ++ l)], some (.ref A3.length), A6.length, ?_, ?_⟩
  · have eF : S ++ [Ob.lst ((l.map fun (x : Nat) => (x : Int)).map fun _ => Va.bl true), Ob.lst [], Ob.lst (l.map fun _ => Va.bl true), LN ds, LN (ds.drop 1 ++ ds.take 1), LN (ds.drop 1), LN (ds.take 1), LN (ds.drop 1 ++ ds.take 1), LN (sn ++ l)] = A6 ++ [LN (sn ++ l)] := by
      rw [← hA6, ← hA5, ← hA4, ← hA3, ← hA2, ← hA1]; simp
    rw [eF]
    simp only [x_seq, x_sif, x_or, x_not, x_B, x_call, x_cons, x_nil, x_var, List.getElem?_cons_succ, List.getElem?_cons_zero, R.bind_ok, c1, x_asB, Bool.not_true, Bool.false_eq_true, if_false, x_op, x_lst, hA2, c2, x_cb, c3, c4, R.toO_ok, x_next, O.seq_nx, x_asg, c5, x_tgName, List.set, c6, c7, c8, c9, x_sl, x_part, x_c, x_noPart, l5, l6, cf, ct, c10, c11, c12]
  · have eF : S ++ [Ob.lst ((l.map fun (x : Nat) => (x : Int)).map fun _ => Va.bl true), Ob.lst [], Ob.lst (l.map fun _ => Va.bl true), LN ds, LN (ds.drop 1 ++ ds.take 1), LN (ds.drop 1), LN (ds.take 1), LN (ds.drop 1 ++ ds.take 1), LN (sn ++ l)] = A6 ++ [LN (sn ++ l)] := by
      rw [← hA6, ← hA5, ← hA4, ← hA3, ← hA2, ← hA1]; simp
    rw [eF]; exact get_n0
end IL

end
section
set_option linter.all false
set_option maxRecDepth 100000
set_option maxHeartbeats 1000000
namespace IL
open PySem L2 MR
noncomputable abbrev rtBody : IS := (sSeq (sAsg (iCall i_rings (iCons (iVar 0) (iCons (iOp fIx (iVar 4) (iC (.int 0))) (iCons (iOp fIx (iVar 4) (iC (.int 1))) (iCons (iOp fIx (iVar 4) (iC (.int 2))) iNil))))) (tgName 6))
  (sSeq (sIf (IL.iOr (iNot (iB (iCB fIsi (iCons (iVar 6) (iCons (iC (.ty "list")) iNil))))) (iB (iOp fNe (iVar 4) (iLst (iCons (iVar 1) (iCons (iVar 2) (iCons (iVar 3) iNil))))))) (sRet (iC (.bl false))) sNext)
  (sSeq (sAsg (iLst iNil) (tgName 7))
  (sSeq (sFor (itList (iVar 6)) (tgName 8) rgBody)
  (sSeq (sIf (iB (iOp fNe (iCB fSorted (iCons (iVar 7) iNil)) (iLc (itRng (iCB fLen (iCons (iVar 1) iNil))) (tgName 11) (iB (iOp fNe (iOp fIx (iVar 2) (iVar 11)) (iOp fIx (iVar 3) (iVar 11)))) (iVar 11) [11]))) (sRet (iC (.bl false))) sNext)
  (sSeq (sAsg (iLc (itList (iVar 6)) (tgName 8) iYes (iCB fList (iCons (iVar 8) iNil)) [8]) (tgName 10))
  (sSeq (sFor (itList (iVar 6)) (tgName 8) (sExpr (iBM mAppend (iVar 8) (iCons (iUn fNeg (iC (.int 1))) iNil))))
  (sSeq (sExpr (iBM mAppend (iVar 6) (iCons (iLst iNil) iNil)))
  (sIf (iB (iOp fNe (iCall i_rings (iCons (iVar 0) (iCons (iOp fIx (iVar 4) (iC (.int 0))) (iCons (iOp fIx (iVar 4) (iC (.int 1))) (iCons (iOp fIx (iVar 4) (iC (.int 2))) iNil))))) (iVar 10))) (sRet (iC (.bl false))) sNext)))))))))
theorem lc_copy {chk : Sto → Bool} {ρ : Env} {S0 : Sto} (hc : ∀ T, chk (S0 ++ T) = true) : ∀ (fr : List Nat) (ls : List (List Nat)) (T : Sto), Paired (fun a l => S0[a]? = some (LN l)) fr ls → 8 < ρ.length →
    lcL chk (tgName 8) iYes (iCB fList (iCons (iVar 8) iNil)) ρ ((fr.map Va.ref).map .one) (S0 ++ T) = .ok ((List.range fr.length).map fun i => .ref ((S0 ++ T).length + i)) (S0 ++ (T ++ ls.map LN))
  | [], _, T, .nil, _ => by simp [lcL, hc]
  | a :: fr, l :: ls, T, .cons h r, hρ => by
    have ih := lc_copy hc fr ls (T ++ [LN l]) r hρ
    have h' : (S0 ++ T)[a]? = some (.lst (l.map vN)) := get_app h
    have hv : (ρ.set 8 (some (Va.ref a)))[8]? = some (some (.ref a)) := by rw [List.getElem?_set_self hρ]
    have e0 : S0 ++ T ++ [Ob.lst (l.map vN)] = S0 ++ (T ++ [LN l]) := by rw [List.append_assoc]; rfl
    simp only [List.map_cons, lcL, hc, if_true, x_tgName, R.bindN_ok, x_yes, x_cb, x_cons, x_var, hv, R.bind_ok, x_nil, fList, getQ_lst h', e0, ih]
    have e1 : (Va.ref (S0 ++ T).length :: (List.range fr.length).map fun i => Va.ref ((S0 ++ (T ++ [LN l])).length + i)) = (List.range (a :: fr).length).map fun i => Va.ref ((S0 ++ T).length + i) := by
      rw [List.length_cons, List.range_succ_eq_map, List.map_cons, List.map_map]
      congr 1
      apply List.map_congr_left
      intro i _
      show Va.ref _ = Va.ref _
      congr 1
      simp; omega
    rw [e1]
    simp
/-- ring.append(-1) for each -/
theorem spoil_ok {S : Sto} {k : Nat} {fr : List Nat} {ls : List (List Nat)} {x0 x1 x2 x3 x4 x5 x6 x7 x8 x9 x10 x11 : Option Va} (hk : S[k]? = some (.lst (fr.map .ref))) (hn : fr.Nodup) (hkf : k ∉ fr) (hr : Paired (fun a l => S[a]? = some (LN l)) fr ls) (hl : ∀ l ∈ ls, l.length ≤ 1000) :
    ∃ x8' S', forL (sameAt S (.ref k)) (tgName 8) (sExpr (iBM mAppend (iVar 8) (iCons (iUn fNeg (iC (.int 1))) iNil))) ((fr.map Va.ref).map .one) [x0, x1, x2, x3, x4, x5, x6, x7, x8, x9, x10, x11] S = .nx [x0, x1, x2, x3, x4, x5, x6, x7, x8', x9, x10, x11] S' ∧ S'.length = S.length ∧ ∀ a, a ∉ fr → S'[a]? = S[a]? := by
  obtain ⟨ρ', S', h1, ⟨x8', h2⟩, h3, h4, h5⟩ := for_nx (chk := sameAt S (.ref k)) (tg := tgName 8) (body := sExpr (iBM mAppend (iVar 8) (iCons (iUn fNeg (iC (.int 1))) iNil)))
    (fun j ρ S' => (∃ x8', ρ = [x0, x1, x2, x3, x4, x5, x6, x7, x8', x9, x10, x11]) ∧ S'.length = S.length ∧ (∀ a, a ∉ fr → S'[a]? = S[a]?) ∧ ∀ i a, j ≤ i → fr[i]? = some a → S'[a]? = S[a]?) ((fr.map Va.ref).map .one) [x0, x1, x2, x3, x4, x5, x6, x7, x8, x9, x10, x11] S
    ⟨⟨x8, rfl⟩, rfl, fun _ _ => rfl, fun _ _ _ _ => rfl⟩ (fun j it ρ S' hj ⟨⟨x8', e1⟩, e2, e3, e4⟩ => by
      subst e1
      obtain ⟨v, z1, rfl⟩ := map_one_get hj
      obtain ⟨a, z2, rfl⟩ := map_get z1
      obtain ⟨l, z3, z4⟩ := Paired.get hr z2
      have g1 : S'[a]? = some (.lst (l.map vN)) := by rw [e4 j a (Nat.le_refl _) z2]; exact z4
      have hll := hl l (List.mem_of_getElem? z3)
      have c1 : mAppend (.ref a) [.int (-1)] S' = .ok .non (S'.set a (.lst (l.map vN ++ [.int (-1)]))) := by
        simp only [mAppend, g1]
        rw [if_pos (by rw [List.length_map]; omega)]
      refine ⟨by simp only [sameAt, decide_eq_true_eq]; exact e3 k hkf, _, _, rfl, _, _, by simp only [x_expr, x_bm, x_var, List.set, List.getElem?_cons_succ, List.getElem?_cons_zero, R.bind_ok, getL_ref g1, x_cons, x_un, x_c, x_nil, fNeg, c1, R.toO_ok]; rfl, ⟨_, rfl⟩, by simp [e2], fun b hb => ?_, fun i b hi hb => ?_⟩
      · rw [gs (fun z => hb (by rw [← z]; exact List.mem_of_getElem? z2))]; exact e3 b hb
      · have : a ≠ b := fun z => by
          subst z
          have := (List.getElem?_inj (List.getElem?_eq_some_iff.mp z2).1 hn).mp (z2.trans hb.symm)
          omega
        rw [gs this]; exact e4 i b (by omega) hb)
    (fun ρ S' ⟨_, _, e3, _⟩ => by simp only [sameAt, decide_eq_true_eq]; exact e3 k hkf)
  subst h2
  exact ⟨x8', S', h1, h3, h4⟩
theorem toP_lst {S : Sto} {k d : Nat} {vs : List Va} {ds : List PyData} (h : S[d]? = some (.lst vs)) (ha : allO (vs.map (toP k S)) = some ds) : toP (k + 1) S (.ref d) = some (.list ds) := by simp only [toP, h, ha]
theorem len_le_flat' : ∀ {f : List (List Nat)}, (∀ r ∈ f, r ≠ []) → f.length ≤ f.flatten.length
  | [], _ => Nat.le_refl _
  | r :: f, h => by
    have h1 := len_le_flat' (f := f) fun r' h' => h r' (List.mem_cons_of_mem _ h')
    have h3 : 0 < r.length := List.length_pos_iff.mpr (h r List.mem_cons_self)
    rw [List.flatten_cons, List.length_cons, List.length_append]; omega
def pRs (ls : List (List Nat)) : PyData := .list (ls.map pL)
theorem pRs_self (ls : List (List Nat)) : PyData.eqv (pRs ls) (pRs ls) = true := by
  unfold pRs; rw [PyData.eqv]
  exact eqvAll_self fun x hx => by obtain ⟨y, _, rfl⟩ := List.mem_map.mp hx; exact pL_self y
theorem toP_Rs {S : Sto} {k j : Nat} {fr : List Nat} {ls : List (List Nat)} (hk : S[k]? = some (.lst (fr.map .ref))) (hr : Paired (fun a l => S[a]? = some (LN l)) fr ls) : toP (j + 2) S (.ref k) = some (pRs ls) := by
  have : allO ((fr.map Va.ref).map (toP (j + 1) S)) = some (ls.map pL) := by
    rw [List.map_map]
    exact allO_rel (Paired.mapR (Paired.imp (fun a l h => toP_LN h) hr))
  simp only [toP, hk, this, pRs]
/-- what is handed, and the sharings -/
structure RH (S : Sto) (n p q r h0 h1 h2 hd : Nat) (ts : List (Nat × Nat)) (sh an : List Nat) : Prop where
  tl : TL S p n ts
  hq : S[q]? = some (LN sh)
  hr : S[r]? = some (LN an)
  tl0 : TL S h0 n ts
  q1 : S[h1]? = some (LN sh)
  r2 : S[h2]? = some (LN an)
  hh : S[hd]? = some (.lst [.ref h0, .ref h1, .ref h2])
theorem RH.app {S T : Sto} {n p q r h0 h1 h2 hd : Nat} {ts : List (Nat × Nat)} {sh an : List Nat} (h : RH S n p q r h0 h1 h2 hd ts sh an) : RH (S ++ T) n p q r h0 h1 h2 hd ts sh an :=
  ⟨h.tl.app, get_app h.hq, get_app h.hr, h.tl0.app, get_app h.q1, get_app h.r2, get_app h.hh⟩
/-- rings of the law -/
structure RMa (n : Nat) (ts : List (Nat × Nat)) (sh an : List Nat) (ls : List (List Nat)) : Prop where
  ok : ∀ l ∈ ls, l ≠ [] ∧ (∀ t ∈ l, t < ts.length) ∧ (l.map fun t => sh.getD t 0).Nodup ∧ (l.map fun t => (ts.getD t (0, 0)).1 + (ts.getD t (0, 0)).2 - sh.getD t 0) = (l.map fun t => sh.getD t 0).drop 1 ++ (l.map fun t => sh.getD t 0).take 1
  pm : ls.flatten.Perm ((List.range ts.length).filter fun t => decide (sh.getD t 0 ≠ an.getD t 0))
theorem cnt_getD (zs : List Nat) (k : Nat) : (List.range zs.length).countP (fun t => zs.getD t 0 = k) = zs.count k := by
  have e : zs = (List.range zs.length).map fun t => zs.getD t 0 := by
    apply List.ext_getElem?
    intro i
    by_cases hi : i < zs.length
    · simp [hi, List.getD]
    · rw [List.getElem?_eq_none (by omega), List.getElem?_eq_none (by simp; omega)]
  conv => rhs; rw [e]
  rw [List.count, List.countP_map]
  apply List.countP_congr
  intro t _
  simp
theorem GS.lt {n : Nat} {ts : List (Nat × Nat)} {zs : List Nat} (hg : GT n ts) (hz : GS ts zs) : ∀ x ∈ zs, x < n := fun x hx => by
  obtain ⟨k, hk⟩ := List.getElem?_of_mem hx
  have hk2 : k < ts.length := by have := (List.getElem?_eq_some_iff.mp hk).1; have := Paired.len hz; omega
  obtain ⟨y, e1, e2⟩ := Paired.get hz (show ts[k]? = some ts[k] by simp [hk2])
  rw [hk] at e1; cases e1
  obtain ⟨g1, g2⟩ := hg ts[k] (List.getElem_mem _)
  omega
theorem rings_ma {n : Nat} {ts : List (Nat × Nat)} {sh an : List Nat} (hg : GT n ts) (hs : GS ts sh) (ha : GS ts an) (hb : loadsN n sh = loadsN n an) : RMa n ts sh an (ringsF n ts.length (fun t => sh.getD t 0) (fun t => an.getD t 0)) := by
  have hls := Paired.len hs
  have hla := Paired.len ha
  have hsn := hs.lt hg
  have han := ha.lt hg
  have hget : ∀ t, t < ts.length → sh.getD t 0 < n := fun t e => hsn _ (by rw [show sh.getD t 0 = sh[t]'(by omega) by simp [List.getD, show t < sh.length by omega]]; exact List.getElem_mem _)
  have hgetA : ∀ t, t < ts.length → an.getD t 0 < n := fun t e => han _ (by rw [show an.getD t 0 = an[t]'(by omega) by simp [List.getD, show t < an.length by omega]]; exact List.getElem_mem _)
  obtain ⟨h1, h2⟩ := rings_ok hget hgetA (fun k => by
    rw [hls, cnt_getD, show sh.length = an.length by omega, cnt_getD]
    by_cases hk : k < n
    · have := congrArg (fun l => l[k]?) hb
      simp only [loadsN_get hk] at this
      exact Option.some.inj this
    · rw [List.count_eq_zero.mpr (fun z => hk (hsn k z)), List.count_eq_zero.mpr (fun z => hk (han k z))])
  refine ⟨fun l hl => ?_, h2⟩
  obtain ⟨r1, r2, r3⟩ := h1 l hl
  have hin : ∀ t ∈ l, t < ts.length ∧ sh.getD t 0 ≠ an.getD t 0 := fun t ht => by
    have := h2.subset (List.mem_flatten.mpr ⟨l, hl, ht⟩)
    rw [List.mem_filter, List.mem_range] at this
    exact ⟨this.1, of_decide_eq_true this.2⟩
  refine ⟨r1, fun t ht => (hin t ht).1, r2, ?_⟩
  rw [← r3]
  apply List.map_congr_left
  intro t ht
  obtain ⟨q1, q2⟩ := hin t ht
  have e1 : ts[t]? = some (ts.getD t (0, 0)) := by simp [List.getD, q1]
  obtain ⟨y, e2, e3⟩ := Paired.get hs e1
  obtain ⟨y', e4, e5⟩ := Paired.get ha e1
  have e6 : sh.getD t 0 = y := by simp [List.getD, e2]
  have e7 : an.getD t 0 = y' := by simp [List.getD, e4]
  show _ = an.getD t 0
  rw [e6, e7]
  rw [e6, e7] at q2
  rcases e3 with e3 | e3 <;> rcases e5 with e5 | e5 <;> omega
theorem flat_take_le {ls : List (List Nat)} {j : Nat} : (ls.take j).flatten.length ≤ ls.flatten.length := by
  have e : (ls.take j).flatten ++ (ls.drop j).flatten = ls.flatten := by rw [← List.flatten_append, List.take_append_drop]
  rw [← e, List.length_append]; omega
theorem sub_flat_le {ls : List (List Nat)} {l : List Nat} (h : l ∈ ls) : l.length ≤ ls.flatten.length := by
  induction ls with
  | nil => cases h
  | cons m ls ih =>
    rw [List.flatten_cons, List.length_append]
    rcases List.mem_cons.mp h with rfl | h
    · omega
    · have := ih h; omega
theorem right_turn {S : Sto} {n p q r h0 h1 h2 hd : Nat} {ts : List (Nat × Nat)} {sh an : List Nat} {x5 x6 x7 x8 x9 x10 x11 : Option Va} (H : RH S n p q r h0 h1 h2 hd ts sh an) (hs : GS ts sh) (ha : GS ts an) (hb : loadsN n sh = loadsN n an) (hn1 : 1 ≤ n) (hn2 : n ≤ 60) (hl : ts.length ≤ 900) :
    ∃ T x6' x7' x8' x9' x10' x11', rtBody [some (vN n), some (.ref p), some (.ref q), some (.ref r), some (.ref hd), x5, x6, x7, x8, x9, x10, x11] S = .nx [some (vN n), some (.ref p), some (.ref q), some (.ref r), some (.ref hd), x5, x6', x7', x8', x9', x10', x11'] (S ++ T) := by
  have hg := H.tl.gt
  have hls := Paired.len hs
  have hla := Paired.len ha
  have ma := rings_ma hg hs ha hb
  obtain ⟨vs0, hp0, hv0⟩ := H.tl0.ex
  -- first call
  obtain ⟨T1, k, fr, c1, hk, hk2, hnd, hpr⟩ := rings_run hp0 hv0 hg hn1 hn2 hl H.q1 hs H.r2 ha hb
  generalize hLs : ringsF n ts.length (fun t => sh.getD t 0) (fun t => an.getD t 0) = ls at *
  have hflat : ls.flatten.length ≤ 900 := by
    rw [ma.pm.length_eq]
    exact Nat.le_trans (List.length_filter_le _ _) (by simp; omega)
  have f0 : ∀ S', S'[hd]? = some (.lst [.ref h0, .ref h1, .ref h2]) → fIx (.ref hd) (.int 0) S' = .ok (.ref h0) S' := fun S' e => fIx_lst (k := 0) e rfl
  have f1 : ∀ S', S'[hd]? = some (.lst [.ref h0, .ref h1, .ref h2]) → fIx (.ref hd) (.int 1) S' = .ok (.ref h1) S' := fun S' e => fIx_lst (k := 1) e rfl
  have f2 : ∀ S', S'[hd]? = some (.lst [.ref h0, .ref h1, .ref h2]) → fIx (.ref hd) (.int 2) S' = .ok (.ref h2) S' := fun S' e => fIx_lst (k := 2) e rfl
  have g0 := f0 S H.hh; have g1 := f1 S H.hh; have g2 := f2 S H.hh
  have H1 := H.app (T := T1)
  generalize hS1 : S ++ T1 = S1 at *
  have hkl := glt hk2
  -- handed as it was
  have H2 := H1.app (T := [Ob.lst [.ref p, .ref q, .ref r]])
  have dT : ∀ {S' : Sto} {a b c d : Nat}, TL S' a n ts → S'[b]? = some (LN sh) → S'[c]? = some (LN an) → S'[d]? = some (.lst [.ref a, .ref b, .ref c]) → toP 9 S' (.ref d) = some (.list [pTs ts, pL sh, pL an]) := fun {S' a b c d} h1 h2 h3 h4 => by
    obtain ⟨vs, e1, e2⟩ := h1.ex
    have e3 : toP 8 S' (.ref a) = some (pTs ts) := toP_Tks (k := 6) e1 e2
    have e4 : toP 8 S' (.ref b) = some (pL sh) := toP_LN (k := 7) h2
    have e5 : toP 8 S' (.ref c) = some (pL an) := toP_LN (k := 7) h3
    refine toP_lst h4 ?_
    simp only [List.map_cons, List.map_nil, e3, e4, e5, allO]
  have hself : PyData.eqv (.list [pTs ts, pL sh, pL an]) (.list [pTs ts, pL sh, pL an]) = true := by
    rw [PyData.eqv]
    refine eqvAll_self fun x hx => ?_
    simp only [List.mem_cons, List.not_mem_nil, or_false] at hx
    rcases hx with rfl | rfl | rfl
    · exact pTs_self ts
    · exact pL_self sh
    · exact pL_self an
  have c2 : fNe (.ref hd) (.ref S1.length) (S1 ++ [Ob.lst [.ref p, .ref q, .ref r]]) = .ok (.bl false) (S1 ++ [Ob.lst [.ref p, .ref q, .ref r]]) := fNe_of (dT H2.tl0 H2.q1 H2.r2 H2.hh) (dT H2.tl H2.hq H2.hr get_n0) hself
  have ty1 : tyB S1 (.ref k) = some "list" := by simp only [tyB, hk2]
  generalize hS2 : S1 ++ [Ob.lst [.ref p, .ref q, .ref r]] = S2 at *
  have hk3 : (S2 ++ [Ob.lst []])[k]? = some (.lst (fr.map .ref)) := by rw [← hS2]; exact get_app (get_app hk2)
  have hpr3 : Paired (fun a l => k < a ∧ (S2 ++ [Ob.lst []])[a]? = some (LN l)) fr ls := by rw [← hS2]; exact Paired.imp (fun a l ⟨u, v⟩ => ⟨u, get_app (get_app v)⟩) hpr
  have H3 := H2.app (T := [Ob.lst []])
  -- each ring looked at
  obtain ⟨S3, hS3⟩ : ∃ S3, S3 = S2 ++ [Ob.lst []] := ⟨_, rfl⟩
  rw [← hS3] at hk3 hpr3 H3
  obtain ⟨ρ', S4, d1, se, x8', x9', ⟨G, d2⟩, d3, d4⟩ := for_nx (chk := sameAt S3 (.ref k)) (tg := tgName 8) (body := rgBody)
    (fun j ρ S' => ∃ se x8 x9, (∃ G, S' = S3 ++ G) ∧ S'[se]? = some (LN (ls.take j).flatten) ∧ ρ = [some (vN n), some (.ref p), some (.ref q), some (.ref r), some (.ref hd), x5, some (.ref k), some (.ref se), x8, x9, x10, x11]) ((fr.map Va.ref).map .one)
    [some (vN n), some (.ref p), some (.ref q), some (.ref r), some (.ref hd), x5, some (.ref k), some (.ref S2.length), x8, x9, x10, x11] S3
    ⟨S2.length, x8, x9, ⟨[], by simp⟩, by rw [hS3]; exact get_n0, rfl⟩
    (fun j it ρ S' hj ⟨se, y8, y9, ⟨G, e1⟩, e2, e3⟩ => by
      subst e3
      obtain ⟨v, z1, rfl⟩ := map_one_get hj
      obtain ⟨a, z2, rfl⟩ := map_get z1
      obtain ⟨l, z3, z4, z5⟩ := Paired.get hpr3 z2
      obtain ⟨m1, m2, m3, m4⟩ := ma.ok l (List.mem_of_getElem? z3)
      have hll := sub_flat_le (List.mem_of_getElem? z3)
      have hfl := flat_take_le (ls := ls) (j := j)
      have H' := H3.app (T := G)
      rw [← e1] at H'
      obtain ⟨T, y9', se', r1, r2⟩ := ring_look (r := r) (x0 := some (vN n)) (x3 := some (.ref r)) (x4 := some (.ref hd)) (x5 := x5) (x6 := some (.ref k)) (x9 := y9) (x10 := x10) (x11 := x11) H'.tl H'.hq hs (show S'[a]? = some (LN l) by rw [e1]; exact get_app z5) e2 m1 m2 m3 m4 (by omega) (by omega)
      refine ⟨by rw [e1]; exact sameAt_app hk3, _, _, rfl, _, _, r1, se', _, _, ⟨G ++ T, by rw [e1, List.append_assoc]⟩, ?_, rfl⟩
      rw [List.take_add_one, z3, List.flatten_append]
      simpa using r2)
    (fun ρ S' ⟨se, y8, y9, ⟨G, e1⟩, _⟩ => by rw [e1]; exact sameAt_app hk3)
  rw [List.length_map, List.length_map, Paired.len hpr3, List.take_length] at d3
  have H4 := H3.app (T := G)
  rw [← d2] at H4
  have hk4 : S4[k]? = some (.lst (fr.map .ref)) := by rw [d2]; exact get_app hk3
  have hpr4 : Paired (fun a l => k < a ∧ S4[a]? = some (LN l)) fr ls := by rw [d2]; exact Paired.imp (fun a l ⟨u, v⟩ => ⟨u, get_app v⟩) hpr3
  -- sorted
  obtain ⟨D, hD⟩ : ∃ D, D = (List.range ts.length).filter fun t => decide (sh.getD t 0 ≠ an.getD t 0) := ⟨_, rfl⟩
  have hsrt : srt (ls.flatten.map fun (x : Nat) => (x : Int)) = D.map fun (x : Nat) => (x : Int) := by
    apply srt_of
    · rw [hD]; exact (ma.pm.symm).map _
    · refine List.Pairwise.map _ (fun a b h => h) ?_
      rw [hD]
      refine List.Pairwise.imp (R := fun a b => a < b) (fun h => by omega) (List.Pairwise.filter _ List.pairwise_lt_range)
  have c3 : fSorted [.ref se] S4 = .ok (.ref S4.length) (S4 ++ [LN D]) := by
    simp only [fSorted, getL_LN d3, Option.bind_some, asIs_N, hsrt]
    unfold LN
    rw [map_vN]
  have H5 := H4.app (T := [LN D])
  obtain ⟨S5, hS5⟩ : ∃ S5, S5 = S4 ++ [LN D] := ⟨_, rfl⟩
  rw [← hS5] at c3 H5
  obtain ⟨vsp, hpp, hvp⟩ := H5.tl.ex
  have hvl := Paired.len hvp
  have hlenp : fLen [.ref p] S5 = .ok (.int ts.length) S5 := by simp only [fLen, getQ_lst hpp, hvl]
  have hrl : (rng 0 (ts.length : Int)).length = ts.length := by unfold rng; simp
  have c4 := lcr_run0 (ii := itRng (iCB fLen (iCons (iVar 1) iNil))) (tg := tgName 11) (tt := iB (iOp fNe (iOp fIx (iVar 2) (iVar 11)) (iOp fIx (iVar 3) (iVar 11)))) (ie := iVar 11) (vs := [11])
    (ρ := [some (vN n), some (.ref p), some (.ref q), some (.ref r), some (.ref hd), x5, some (.ref k), some (.ref se), x8', x9', x10, x11]) (S := S5) (its := (rng 0 (ts.length : Int)).map fun i => .one (.int i)) (os := (List.range ts.length).map fun t => if sh.getD t 0 ≠ an.getD t 0 then some (vN t) else none) (chk := fun _ => true)
    (by simp only [x_itRng, x_cb, x_cons, x_var, x_nil, List.getElem?_cons_succ, List.getElem?_cons_zero, R.bind_ok, hlenp]; rw [if_pos (by omega)]) (by rw [List.length_map, hrl]; omega) rfl
    (Paired.of_get (by rw [List.length_map, List.length_map, hrl, List.length_range]) fun j it o h1 h2 => by
      obtain ⟨i, e1, rfl⟩ := map_get h1
      obtain ⟨t, e2, rfl⟩ := map_get h2
      have hjt : t = j := by
        obtain ⟨u1, u2⟩ := List.getElem?_eq_some_iff.mp e2
        rw [List.getElem_range] at u2; omega
      subst hjt
      have htl : t < ts.length := by have := (List.getElem?_eq_some_iff.mp e2).1; rwa [List.length_range] at this
      have hi : i = (t : Int) := by
        unfold rng at e1
        obtain ⟨y, e3, rfl⟩ := map_get e1
        obtain ⟨u1, u2⟩ := List.getElem?_eq_some_iff.mp e3
        rw [List.getElem_range] at u2; omega
      subst hi
      have u1 : fIx (.ref q) (vN t) S5 = .ok (vN (sh.getD t 0)) S5 := fIx_lst H5.hq (vN_get (by simp [List.getD, show t < sh.length by omega]))
      have u2 : fIx (.ref r) (vN t) S5 = .ok (vN (an.getD t 0)) S5 := fIx_lst H5.hr (vN_get (by simp [List.getD, show t < an.length by omega]))
      have u1' : fIx (.ref q) (.int (t : Int)) S5 = .ok (vN (sh.getD t 0)) S5 := u1
      have u2' : fIx (.ref r) (.int (t : Int)) S5 = .ok (vN (an.getD t 0)) S5 := u2
      generalize sh.getD t 0 = y1 at *
      generalize an.getD t 0 = y2 at *
      refine ⟨_, rfl, ?_, fun y hy => ?_⟩
      · simp only [x_B, x_op, x_var, x_wipe1, x_wipe0, List.set, List.getElem?_cons_succ, List.getElem?_cons_zero, R.bind_ok, u1', u2', fNe_N, x_asB]
        by_cases e : y1 = y2 <;> simp [e]
      · by_cases e : y1 = y2
        · rw [if_neg (by simp [e])] at hy; cases hy
        · rw [if_pos e] at hy; cases hy; rfl)
  have hos : ((List.range ts.length).map fun t => if sh.getD t 0 ≠ an.getD t 0 then some (vN t) else none).filterMap id = D.map vN := by
    rw [hD]
    generalize List.range ts.length = zs
    induction zs with
    | nil => rfl
    | cons z zs ih =>
      by_cases e : sh.getD z 0 = an.getD z 0
      · simp only [List.map_cons, e, ne_eq, not_true_eq_false, if_false, List.filterMap_cons_none, id_eq, decide_false, List.filter_cons_of_neg, Bool.false_eq_true, not_false_eq_true]
        exact ih
      · simp only [List.map_cons, ne_eq, e, not_false_eq_true, if_true, decide_true, List.filter_cons_of_pos]
        rw [List.filterMap_cons_some (b := vN z) (by rfl)]
        simp only [ne_eq] at ih
        rw [ih]
  rw [hos] at c4
  have c5 : fNe (.ref S4.length) (.ref S5.length) (S5 ++ [.lst (D.map vN)]) = .ok (.bl false) (S5 ++ [.lst (D.map vN)]) := by
    have e1 : (S5 ++ [Ob.lst (D.map vN)])[S4.length]? = some (LN D) := by rw [hS5]; exact get_app get_n0
    rw [fNe_LN e1 (show (S5 ++ [Ob.lst (D.map vN)])[S5.length]? = some (LN D) from get_n0)]
    simp
  obtain ⟨S6, hS6⟩ : ∃ S6, S6 = S5 ++ [Ob.lst (D.map vN)] := ⟨_, rfl⟩
  rw [← hS6] at c4 c5
  have H6 := H5.app (T := [Ob.lst (D.map vN)])
  rw [← hS6] at H6
  have hk6 : S6[k]? = some (.lst (fr.map .ref)) := by rw [hS6, hS5]; exact get_app (get_app hk4)
  have hpr6 : Paired (fun a l => k < a ∧ S6[a]? = some (LN l)) fr ls := by rw [hS6, hS5]; exact Paired.imp (fun a l ⟨u, v⟩ => ⟨u, get_app (get_app v)⟩) hpr4
  have hfrl := Paired.len hpr6
  have hlsl : ls.length ≤ 900 := Nat.le_trans (len_le_flat' fun l hl => (ma.ok l hl).1) hflat
  -- kept
  have c6 := lc_copy (chk := sameAt S6 (.ref k)) (ρ := wipeE [some (vN n), some (.ref p), some (.ref q), some (.ref r), some (.ref hd), x5, some (.ref k), some (.ref se), x8', x9', x10, x11] [8]) (S0 := S6) (fun T => sameAt_app hk6) fr ls [] (Paired.imp (fun a l ⟨_, v⟩ => v) hpr6) (by simp)
  rw [List.append_nil, List.nil_append] at c6
  have c7 : iLc (itList (iVar 6)) (tgName 8) iYes (iCB fList (iCons (iVar 8) iNil)) [8] [some (vN n), some (.ref p), some (.ref q), some (.ref r), some (.ref hd), x5, some (.ref k), some (.ref se), x8', x9', x10, x11] S6 = .ok (.ref (S6 ++ ls.map LN).length) (S6 ++ ls.map LN ++ [.lst ((List.range fr.length).map fun i => .ref (S6.length + i))]) := by
    simp only [iLc, x_itList, x_var, List.getElem?_cons_succ, List.getElem?_cons_zero, R.bind_ok, getL_ref hk6, List.length_map]
    rw [if_pos (by omega), c6]
    rfl
  obtain ⟨kp, hkp⟩ : ∃ kp, kp = (S6 ++ ls.map LN).length := ⟨_, rfl⟩
  obtain ⟨S7, hS7⟩ : ∃ S7, S7 = S6 ++ ls.map LN ++ [Ob.lst ((List.range fr.length).map fun i => .ref (S6.length + i))] := ⟨_, rfl⟩
  rw [← hS7, ← hkp] at c7
  have hkp7 : S7[kp]? = some (.lst (((List.range fr.length).map fun i => S6.length + i).map .ref)) := by
    rw [hS7, hkp, List.map_map]; exact get_n0
  have hcp7 : Paired (fun a l => S7[a]? = some (LN l)) ((List.range fr.length).map fun i => S6.length + i) ls := by
    refine Paired.of_get (by simp [hfrl]) fun i a l e1 e2 => ?_
    obtain ⟨i', e3, rfl⟩ := map_get e1
    have : i' = i := by
      obtain ⟨u1, u2⟩ := List.getElem?_eq_some_iff.mp e3
      rw [List.getElem_range] at u2; omega
    subst this
    rw [hS7]
    refine get_app ?_
    rw [List.getElem?_append_right (by omega), show S6.length + i' - S6.length = i' by omega, List.getElem?_map, e2]; rfl
  have H7 := (H6.app (T := ls.map LN)).app (T := [Ob.lst ((List.range fr.length).map fun i => .ref (S6.length + i))])
  rw [← hS7] at H7
  have hk7 : S7[k]? = some (.lst (fr.map .ref)) := by rw [hS7]; exact get_app (get_app hk6)
  have hpr7 : Paired (fun a l => k < a ∧ S7[a]? = some (LN l)) fr ls := by rw [hS7]; exact Paired.imp (fun a l ⟨u, v⟩ => ⟨u, get_app (get_app v)⟩) hpr6
  have hfr6 : ∀ a ∈ fr, k < a ∧ a < S6.length := fun a ha => by
    obtain ⟨l, _, u, v⟩ := Paired.mem hpr6 ha
    exact ⟨u, glt v⟩
  have hkfr : k ∉ fr := fun z => by have := hfr6 k z; omega
  -- spoiled
  obtain ⟨x8b, S8, c8, l8, e8⟩ := spoil_ok (x0 := some (vN n)) (x1 := some (.ref p)) (x2 := some (.ref q)) (x3 := some (.ref r)) (x4 := some (.ref hd)) (x5 := x5) (x6 := some (.ref k)) (x7 := some (.ref se)) (x8 := x8') (x9 := x9') (x10 := some (.ref kp)) (x11 := x11) hk7 hnd hkfr (Paired.imp (fun a l ⟨_, v⟩ => v) hpr7) (fun l hl => by have := sub_flat_le hl; omega)
  have hk8 : S8[k]? = some (.lst (fr.map .ref)) := by rw [e8 k hkfr]; exact hk7
  have hk8' : (S8 ++ [Ob.lst []])[k]? = some (.lst (fr.map .ref)) := get_app hk8
  have c9 : mAppend (.ref k) [.ref S8.length] (S8 ++ [Ob.lst []]) = .ok .non ((S8 ++ [Ob.lst []]).set k (.lst (fr.map .ref ++ [.ref S8.length]))) := by
    simp only [mAppend, hk8']
    rw [if_pos (by rw [List.length_map]; omega)]
  obtain ⟨S9, hS9⟩ : ∃ S9, S9 = (S8 ++ [Ob.lst []]).set k (.lst (fr.map .ref ++ [.ref S8.length])) := ⟨_, rfl⟩
  rw [← hS9] at c9
  have hkSl : S.length ≤ k := hk
  have e9 : ∀ a, a ∉ fr → a ≠ k → a < S7.length → S9[a]? = S7[a]? := fun a u1 u2 u3 => by
    rw [hS9, gs (Ne.symm u2), gapp (by omega)]; exact e8 a u1
  have hSpre : ∀ a, a < S.length → S7[a]? = S[a]? := fun a ha => by
    have hl1 : S.length ≤ S1.length := by rw [← hS1]; simp
    have hl2 : S.length ≤ S2.length := by rw [← hS2]; simp; omega
    have hl3 : S.length ≤ S3.length := by rw [hS3]; simp; omega
    have hl4 : S.length ≤ S4.length := by rw [d2]; simp; omega
    have hl5 : S.length ≤ S5.length := by rw [hS5]; simp; omega
    have hl6 : S.length ≤ S6.length := by rw [hS6]; simp; omega
    rw [hS7, gapp (by simp; omega), gapp (by omega), hS6, gapp (by omega), hS5, gapp (by omega), d2, gapp (by omega), hS3, gapp (by omega), ← hS2, gapp (by omega), ← hS1, gapp ha]
  have hSl7 : S.length < S7.length := by have := glt hk7; omega
  obtain ⟨T9, hT9⟩ := prefix_of (S := S) (S' := S9) (fun a ha => by
    rw [e9 a (fun z => by have := hfr6 a z; omega) (by omega) (by omega)]; exact hSpre a ha)
  have H9 := H.app (T := T9)
  rw [← hT9] at H9
  -- asked again
  obtain ⟨vs9, hp9, hv9⟩ := H9.tl0.ex
  obtain ⟨T2, k2, fr2, c10, _, hkk2, _, hpr2⟩ := rings_run hp9 hv9 hg hn1 hn2 hl H9.q1 hs H9.r2 ha hb
  rw [hLs] at hpr2
  have hk6l : kp < S7.length := glt hkp7
  have hkpk : kp ≠ k := by have := glt hk6; rw [hkp]; simp; omega
  have hkpf : kp ∉ fr := fun z => by have := hfr6 kp z; rw [hkp] at this; simp at this; omega
  have hkp10 : (S9 ++ T2)[kp]? = some (.lst (((List.range fr.length).map fun i => S6.length + i).map .ref)) := get_app (by rw [e9 kp hkpf hkpk hk6l]; exact hkp7)
  have hcp10 : Paired (fun a l => (S9 ++ T2)[a]? = some (LN l)) ((List.range fr.length).map fun i => S6.length + i) ls := by
    refine Paired.of_get (Paired.len hcp7) fun i a l e1 e2 => ?_
    obtain ⟨l', e3, e4⟩ := Paired.get hcp7 e1
    rw [e2] at e3; cases e3
    obtain ⟨i', _, rfl⟩ := map_get e1
    have hk6' := glt hk6
    refine get_app ?_
    rw [e9 _ (fun z => by have := hfr6 _ z; omega) (by omega) (glt e4)]; exact e4
  have c11 : fNe (.ref k2) (.ref kp) (S9 ++ T2) = .ok (.bl false) (S9 ++ T2) := fNe_of (toP_Rs (j := 7) hkk2 (Paired.imp (fun a l ⟨_, v⟩ => v) hpr2)) (toP_Rs (j := 7) hkp10 hcp10) (pRs_self ls)
  have g90 := f0 S9 H9.hh; have g91 := f1 S9 H9.hh; have g92 := f2 S9 H9.hh
  have lq7 : getL S7 (.ref k) = some (fr.map .ref) := getL_ref hk7
  have lq8 : getL S8 (.ref k) = some (fr.map .ref) := getL_ref hk8
  have lq3 : getL S3 (.ref k) = some (fr.map .ref) := getL_ref hk3
  refine ⟨T9 ++ T2, some (.ref k), some (.ref se), x8b, x9', some (.ref kp), x11, ?_⟩
  rw [← List.append_assoc, ← hT9]
  subst d4
  simp only [x_seq, x_asg, x_call, x_cons, x_nil, x_op, x_var, x_c, List.getElem?_cons_succ, List.getElem?_cons_zero, R.bind_ok, g0, g1, g2, c1, R.toO_ok, x_tgName, List.set, O.seq_nx, x_sif, x_or, x_not, x_B, x_cb, x_isi, ty1, kit_ll, x_asB, Bool.not_true, Bool.false_eq_true, if_false, x_lst, hS2, c2, x_next, ← hS3, x_for, x_itList, lq3, d1, c3, c4, c5, c7, lq7, c8, x_expr, x_bm, lq8, c9, g90, g91, g92, c10, c11]
end IL

end
section
set_option linter.all false
set_option maxRecDepth 100000
set_option maxHeartbeats 1000000
namespace IL
open PySem L2 MR
theorem rng2 : (rng 0 2).map (fun i => It1.one (.int i)) = [.one (.int 0), .one (.int 1)] := by rfl
theorem right_ok {S : Sto} {n p q r : Nat} {ts : List (Nat × Nat)} {sh an : List Nat} (ht : TL S p n ts) (hq : S[q]? = some (LN sh)) (hr : S[r]? = some (LN an)) (hs : GS ts sh) (ha : GS ts an) (hb : loadsN n sh = loadsN n an) (hn1 : 1 ≤ n) (hn2 : n ≤ 60) (hl : ts.length ≤ 900) :
    ∃ T, i__law_right [vN n, .ref p, .ref q, .ref r] S = .ok (.bl true) (S ++ T) := by
  obtain ⟨vs, hp, hv⟩ := ht.ex
  obtain ⟨S1, hS1⟩ : ∃ S1, S1 = S ++ [Ob.lst vs, LN sh, LN an, Ob.lst [.ref S.length, .ref (S.length + 1), .ref (S.length + 2)]] := ⟨_, rfl⟩
  have H : RH S1 n p q r S.length (S.length + 1) (S.length + 2) (S.length + 3) ts sh an := by
    rw [hS1]
    exact ⟨ht.app, get_app hq, get_app hr, ⟨⟨vs, get_n0, hv.app⟩, ht.gt⟩, get_n1, get_n2, get_n3⟩
  obtain ⟨T1, a6, a7, a8, a9, a10, a11, t1⟩ := right_turn (x5 := some (.int 0)) (x6 := none) (x7 := none) (x8 := none) (x9 := none) (x10 := none) (x11 := none) H hs ha hb hn1 hn2 hl
  obtain ⟨T2, b6, b7, b8, b9, b10, b11, t2⟩ := right_turn (x5 := some (.int 1)) (x6 := a6) (x7 := a7) (x8 := a8) (x9 := a9) (x10 := a10) (x11 := a11) (H.app (T := T1)) hs ha hb hn1 hn2 hl
  have c1 : fList [.ref p] S = .ok (.ref S.length) (S ++ [Ob.lst vs]) := by simp only [fList, getQ_lst hp]
  have c2 : fList [.ref q] (S ++ [Ob.lst vs]) = .ok (.ref (S.length + 1)) (S ++ [Ob.lst vs, LN sh]) := by
    have := get_app (T := [Ob.lst vs]) hq
    unfold LN at this ⊢
    simp only [fList, getQ_lst this]
    simp
  have c3 : fList [.ref r] (S ++ [Ob.lst vs, LN sh]) = .ok (.ref (S.length + 2)) (S ++ [Ob.lst vs, LN sh, LN an]) := by
    have h := get_app (T := [Ob.lst vs, LN sh]) hr
    unfold LN at h ⊢
    simp only [fList, getQ_lst h]
    simp
  have c4 : (S ++ [Ob.lst vs, LN sh, LN an]).length = S.length + 3 := by simp
  have c5 : S ++ [Ob.lst vs, LN sh, LN an] ++ [Ob.lst [.ref S.length, .ref (S.length + 1), .ref (S.length + 2)]] = S1 := by rw [hS1]; simp
  refine ⟨[Ob.lst vs, LN sh, LN an, Ob.lst [.ref S.length, .ref (S.length + 1), .ref (S.length + 2)]] ++ T1 ++ T2, ?_⟩
  have eF : S ++ ([Ob.lst vs, LN sh, LN an, Ob.lst [.ref S.length, .ref (S.length + 1), .ref (S.length + 2)]] ++ T1 ++ T2) = S1 ++ T1 ++ T2 := by rw [hS1]; simp
  rw [eF]
  simp only [i__law_right, mk4, List.replicate]
  simp only [x_seq, x_asg, x_lst, x_cons, x_cb, x_var, x_nil, List.getElem?_cons_succ, List.getElem?_cons_zero, R.bind_ok, c1, c2, c3, c4, c5, R.toO_ok, x_tgName, List.set, O.seq_nx, x_for, x_itRng, x_c]
  rw [if_pos (by decide)]
  simp only [R.toO_ok, rng2, forL, if_true, x_tgName, List.set, t1, t2, O.seq_nx, x_ret, x_c, x_val_rt]
end IL

end
section
set_option linter.all false
set_option maxRecDepth 100000
set_option maxHeartbeats 1000000
namespace IL
open PySem L2 MR
/-! passed around -/
theorem count_set1 : ∀ {l : List Nat} {i v x : Nat} (p : Nat), l[i]? = some x → (l.set i v).count p + [x].count p = l.count p + [v].count p
  | [], i, v, x, p, h => by simp at h
  | y :: l, 0, v, x, p, h => by
    simp at h; subst h
    rw [List.set_cons_zero, show (v :: l) = [v] ++ l from rfl, show (y :: l) = [y] ++ l from rfl, List.count_append, List.count_append]; omega
  | y :: l, i + 1, v, x, p, h => by
    have := count_set1 (l := l) (i := i) (v := v) (x := x) p (by simpa using h)
    rw [List.set_cons_succ, show (y :: l.set i v) = [y] ++ l.set i v from rfl, show (y :: l) = [y] ++ l from rfl, List.count_append, List.count_append]; omega
def setAllN (f : Nat → Nat) : List Nat → List Nat → List Nat
  | [], sh => sh
  | t :: r, sh => setAllN f r (sh.set t (f t))
theorem setAllN_length {f : Nat → Nat} : ∀ (r sh : List Nat), (setAllN f r sh).length = sh.length
  | [], _ => rfl
  | t :: r, sh => by rw [setAllN, setAllN_length r, List.length_set]
theorem setAllN_get {f : Nat → Nat} : ∀ (r sh : List Nat) (i : Nat), i < sh.length → (setAllN f r sh)[i]? = if i ∈ r then some (f i) else sh[i]?
  | [], sh, i, h => by simp [setAllN]
  | t :: r, sh, i, h => by
    rw [setAllN, setAllN_get r _ i (by rw [List.length_set]; exact h)]
    by_cases e : i ∈ r
    · simp [e]
    · rw [if_neg e]
      by_cases e2 : t = i
      · subst e2; rw [List.getElem?_set_self h]; simp
      · rw [List.getElem?_set_ne e2, if_neg]
        simp [e, Ne.symm e2]
theorem setAllN_snoc {f : Nat → Nat} : ∀ (r : List Nat) (t : Nat) (sh : List Nat), setAllN f (r ++ [t]) sh = (setAllN f r sh).set t (f t)
  | [], _, _ => rfl
  | a :: r, t, sh => by rw [List.cons_append, setAllN, setAllN, setAllN_snoc r]
theorem setAllN_count {f s : Nat → Nat} (p : Nat) : ∀ (r sh : List Nat), r.Nodup → (∀ t ∈ r, sh[t]? = some (s t)) → (setAllN f r sh).count p + (r.map s).count p = sh.count p + (r.map f).count p
  | [], _, _, _ => rfl
  | t :: r, sh, hn, h => by
    obtain ⟨h1, h2⟩ := List.nodup_cons.mp hn
    have ih := setAllN_count (f := f) (s := s) p r (sh.set t (f t)) h2 fun u hu => by
      rw [List.getElem?_set_ne (fun z => h1 (by rw [z]; exact hu))]; exact h u (List.mem_cons_of_mem _ hu)
    have hc := count_set1 (v := f t) p (h t List.mem_cons_self)
    rw [setAllN, List.map_cons, List.map_cons, show (s t :: r.map s) = [s t] ++ r.map s from rfl, show (f t :: r.map f) = [f t] ++ r.map f from rfl, List.count_append, List.count_append]; omega
/-- the walk so far -/
structure TW (ts : List (Nat × Nat)) (sh : List Nat) (n b : Nat) (way met : List Nat) : Prop where
  len : met.length = way.length + 1
  nd : met.Nodup
  lt : ∀ x ∈ met, x < n
  wnd : way.Nodup
  wlt : ∀ t ∈ way, t < ts.length
  sd : way.map (fun t => sh.getD t 0) = met.take way.length
  an : way.map (fun t => (ts.getD t (0, 0)).1 + (ts.getD t (0, 0)).2 - sh.getD t 0) = met.drop 1
theorem nodup_le : ∀ {n : Nat} {met : List Nat}, met.Nodup → (∀ x ∈ met, x < n) → met.length ≤ n
  | 0, [], _, _ => Nat.le_refl _
  | 0, x :: met, _, hl => by have := hl x List.mem_cons_self; omega
  | n + 1, met, h, hl => by
    have h1 := nodup_le (n := n) (met := met.erase n) (h.erase n) fun x hx => by
      have h2 := (h.mem_erase_iff).mp hx
      have := hl x h2.2
      have := h2.1
      omega
    rw [List.length_erase] at h1
    split at h1 <;> omega
theorem last_ix {xs : List Nat} {S : Sto} {p x : Nat} (h : S[p]? = some (LN (xs ++ [x]))) : fIx (.ref p) (.int (-1)) S = .ok (vN x) S := by
  unfold LN at h
  have e : ixN (xs.length + 1) (-1) = some xs.length := by
    unfold ixN
    rw [if_neg (by decide), if_pos (by omega)]
    congr 1; omega
  simp only [fIx, getQ_lst h, atI, List.length_map, List.length_append, List.length_singleton, e, Option.bind_some, List.getElem?_map]
  simp
noncomputable abbrev tuPass : IS := (sAsg (iCall i__law_second (iCons (iOp fIx (iVar 0) (iVar 8)) (iCons (iOp fIx (iVar 7) (iVar 8)) iNil))) (tgSub (iVar 7) (iVar 8)))
theorem pass_ok {S : Sto} {n p fa ra : Nat} {ts : List (Nat × Nat)} {sh ring : List Nat} {x1 x2 x3 x4 x5 x6 x8 x9 : Option Va} (ht : TL S p n ts) (hs : GS ts sh) (hf : S[fa]? = some (LN sh)) (hr : S[ra]? = some (LN ring)) (hne : fa ≠ ra) (hpf : p ≠ fa) (hrl : ∀ t ∈ ring, t < ts.length) (hnd : ring.Nodup) :
    ∃ x8' S', forL (sameAt S (.ref ra)) (tgName 8) tuPass ((ring.map vN).map .one) [some (.ref p), x1, x2, x3, x4, x5, x6, some (.ref fa), x8, x9] S = .nx [some (.ref p), x1, x2, x3, x4, x5, x6, some (.ref fa), x8', x9] S' ∧ S'.length = S.length ∧ (∀ a, a ≠ fa → S'[a]? = S[a]?) ∧ S'[fa]? = some (LN (setAllN (fun t => (ts.getD t (0, 0)).1 + (ts.getD t (0, 0)).2 - sh.getD t 0) ring sh)) := by
  have hls := Paired.len hs
  obtain ⟨vs, hp, hv⟩ := ht.ex
  obtain ⟨ρ', S', h1, ⟨x8', h2⟩, h3, h4, h5⟩ := for_nx (chk := sameAt S (.ref ra)) (tg := tgName 8) (body := tuPass)
    (fun j ρ S' => (∃ x8', ρ = [some (.ref p), x1, x2, x3, x4, x5, x6, some (.ref fa), x8', x9]) ∧ S'.length = S.length ∧ (∀ a, a ≠ fa → S'[a]? = S[a]?) ∧ S'[fa]? = some (LN (setAllN (fun t => (ts.getD t (0, 0)).1 + (ts.getD t (0, 0)).2 - sh.getD t 0) (ring.take j) sh))) ((ring.map vN).map .one) [some (.ref p), x1, x2, x3, x4, x5, x6, some (.ref fa), x8, x9] S
    ⟨⟨x8, rfl⟩, rfl, fun _ _ => rfl, hf⟩ (fun j it ρ S' hj ⟨⟨x8', e1⟩, e2, e3, e4⟩ => by
      subst e1
      obtain ⟨v, z1, rfl⟩ := map_one_get hj
      obtain ⟨t, z2, rfl⟩ := map_get z1
      have htl := hrl t (List.mem_of_getElem? z2)
      have hnt : t ∉ ring.take j := fun hm => by
        obtain ⟨i, hi⟩ := List.getElem?_of_mem hm
        have hij : i < j := by have := (List.getElem?_eq_some_iff.mp hi).1; rw [List.length_take] at this; omega
        rw [List.getElem?_take_of_lt hij] at hi
        have := (List.getElem?_inj (List.getElem?_eq_some_iff.mp hi).1 hnd).mp (hi.trans z2.symm)
        omega
      have e5 : ts[t]? = some (ts.getD t (0, 0)) := by simp [List.getD, htl]
      obtain ⟨w, e6, c, rfl, e7⟩ := Paired.getR hv e5
      have hcne : c ≠ fa := fun z => by rw [z, hf] at e7; cases e7
      have g1 : fIx (.ref p) (vN t) S' = .ok (.ref c) S' := fIx_lst (by rw [e3 p hpf]; exact hp) e6
      have gv : (setAllN (fun t => (ts.getD t (0, 0)).1 + (ts.getD t (0, 0)).2 - sh.getD t 0) (ring.take j) sh)[t]? = some (sh.getD t 0) := by
        rw [setAllN_get _ _ _ (by omega), if_neg hnt]; simp [List.getD, show t < sh.length by omega]
      have g2 : fIx (.ref fa) (vN t) S' = .ok (vN (sh.getD t 0)) S' := fIx_lst e4 (vN_get gv)
      obtain ⟨y, e8, e9⟩ := Paired.get hs e5
      have e10 : sh.getD t 0 = y := by simp [List.getD, e8]
      have g3 := second_ok (S := S') (q := c) (a := (ts.getD t (0, 0)).1) (b := (ts.getD t (0, 0)).2) (x := sh.getD t 0) (by rw [e3 c hcne]; exact e7) (by rw [e10]; exact e9)
      have g4 := setL_lst (v := vN ((ts.getD t (0, 0)).1 + (ts.getD t (0, 0)).2 - sh.getD t 0)) (k := t) e4 (by rw [List.length_map, setAllN_length]; omega)
      rw [LN_set, ← setAllN_snoc (f := fun t => (ts.getD t (0, 0)).1 + (ts.getD t (0, 0)).2 - sh.getD t 0)] at g4
      have e11 : ring.take j ++ [t] = ring.take (j + 1) := by rw [List.take_add_one, z2]; rfl
      rw [e11] at g4
      have g4' : setL (.ref fa) (vN t) (vN ((ts.getD t (0, 0)).1 + (ts.getD t (0, 0)).2 - sh.getD t 0)) S' = .ok () (S'.set fa (LN (setAllN (fun t => (ts.getD t (0, 0)).1 + (ts.getD t (0, 0)).2 - sh.getD t 0) (ring.take (j + 1)) sh))) := g4
      refine ⟨by simp only [sameAt, decide_eq_true_eq]; exact e3 ra (Ne.symm hne), _, _, rfl, _, _, by simp only [x_asg, x_call, x_cons, x_nil, x_op, x_var, List.set, List.getElem?_cons_succ, List.getElem?_cons_zero, R.bind_ok, g1, g2, g3, R.toO_ok, x_tgSub, g4']; rfl, ⟨_, rfl⟩, by simp [e2], fun a ha => ?_, gself e4⟩
      rw [gs (Ne.symm ha)]; exact e3 a ha)
    (fun ρ S' ⟨_, _, e3, _⟩ => by simp only [sameAt, decide_eq_true_eq]; exact e3 ra (Ne.symm hne))
  subst h2
  rw [List.length_map, List.length_map, List.take_length] at h5
  exact ⟨x8', S', h1, h3, h4, h5⟩
noncomputable abbrev tuB : IS := (sSeq (sAsg (iLc (itEnum (iVar 1)) (tgTupN 2 [(tgName 8), (tgName 9)]) (iAnd (iB (iOp fEq (iVar 9) (iVar 3))) (iB (iOp (fIn true) (iVar 8) (iVar 4)))) (iVar 8) [8, 9]) (tgName 6))
  (sSeq (sIf (iB (iOp fEq (iVar 6) (iLst iNil))) (sRet (iCB fList (iCons (iVar 1) iNil))) sNext)
  (sSeq (sExpr (iBM mAppend (iVar 4) (iCons (iOp fIx (iVar 6) (iOp fMod (iVar 2) (iCB fLen (iCons (iVar 6) iNil)))) iNil)))
  (sSeq (sAsg (iCall i__law_second (iCons (iOp fIx (iVar 0) (iOp fIx (iVar 4) (iUn fNeg (iC (.int 1))))) (iCons (iVar 3) iNil))) (tgName 3))
  (sSeq (sIf (iB (iOp (fIn false) (iVar 3) (iVar 5))) (sSeq (sAsg (iCB fList (iCons (iVar 1) iNil)) (tgName 7))
  (sSeq (sFor (itList (iSl (iVar 4) (iPart (iBM mIndex (iVar 5) (iCons (iVar 3) iNil))) iNoPart)) (tgName 8) tuPass)
  (sRet (iVar 7)))) sNext)
  (sExpr (iBM mAppend (iVar 5) (iCons (iVar 3) iNil))))))))
theorem fEq_N {S : Sto} {x y : Nat} : fEq (vN x) (vN y) S = .ok (.bl (decide (x = y))) S := by
  rw [vN, vN, fEq_ii]
  congr 2
  by_cases h : x = y
  · subst h; simp
  · rw [decide_eq_false h]; exact decide_eq_false (by omega)
/-- a sharing told: as many each -/
def TwOut (S : Sto) (n : Nat) (ts : List (Nat × Nat)) (sh : List Nat) (o : O) : Prop := ∃ T k sh', o = .rt (.ref k) (S ++ T) ∧ (S ++ T)[k]? = some (LN sh') ∧ S.length ≤ k ∧ GS ts sh' ∧ loadsN n sh' = loadsN n sh
theorem turned_ok {S : Sto} {n p q b : Nat} {ts : List (Nat × Nat)} {sh : List Nat} (ht : TL S p n ts) (hq : S[q]? = some (LN sh)) (hs : GS ts sh) (hb : b < n) (hn : n ≤ 60) (hl : ts.length ≤ 900) :
    ∃ T k sh', i__law_turned [.ref p, .ref q, vN b] S = .ok (.ref k) (S ++ T) ∧ (S ++ T)[k]? = some (LN sh') ∧ S.length ≤ k ∧ GS ts sh' ∧ loadsN n sh' = loadsN n sh := by
  have hls := Paired.len hs
  obtain ⟨vs, hp, hv⟩ := ht.ex
  have hsn := hs.lt ht.gt
  have key : TwOut S n ts sh (sWhile (iB (iC (.bl true))) tuB [some (.ref p), some (.ref q), some (vN b), some (vN b), some (.ref S.length), some (.ref (S.length + 1)), none, none, none, none] (S ++ [LN [], LN [b], .tup [vN b, .ref S.length, .ref (S.length + 1)]])) := by
    refine while_rule (G := TwOut S n ts sh) (by rintro ⟨_, _, _, z, _⟩; cases z)
      (fun m ρ S' => ∃ way met here x6 x7 x8 x9 G, ρ = [some (.ref p), some (.ref q), some (vN b), some (vN here), some (.ref S.length), some (.ref (S.length + 1)), x6, x7, x8, x9] ∧ S' = S ++ LN way :: LN met :: G ∧ TW ts sh n b way met ∧ met[way.length]? = some here ∧ m = n - met.length) ?_
      (m := n - 1) ⟨[], [b], b, none, none, none, none, _, rfl, rfl, ⟨rfl, by simp, by simp [hb], by simp, by simp, rfl, rfl⟩, rfl, rfl⟩
    rintro m ρ S' ⟨way, met, here, x6, x7, x8, x9, G, rfl, rfl, tw, hh, rfl⟩
    refine ⟨true, _, rfl, fun z => (by cases z), fun _ => ?_⟩
    have hml := nodup_le tw.nd tw.lt
    have hlen := tw.len
    obtain ⟨S1, hS1⟩ : ∃ S1, S1 = S ++ LN way :: LN met :: G := ⟨_, rfl⟩
    rw [← hS1]
    have hq1 : S1[q]? = some (LN sh) := by rw [hS1]; exact get_app hq
    have hw1 : S1[S.length]? = some (LN way) := by rw [hS1]; exact get_n0
    have hm1 : S1[S.length + 1]? = some (LN met) := by rw [hS1]; exact get_n1
    -- mine
    obtain ⟨mine, hmine⟩ : ∃ mine, mine = (List.range ts.length).filter fun t => decide (sh.getD t 0 = here) && !decide (t ∈ way) := ⟨_, rfl⟩
    have c1 := lcr_run0 (ii := itEnum (iVar 1)) (tg := tgTupN 2 [tgName 8, tgName 9]) (tt := iAnd (iB (iOp fEq (iVar 9) (iVar 3))) (iB (iOp (fIn true) (iVar 8) (iVar 4)))) (ie := iVar 8) (vs := [8, 9])
      (ρ := [some (.ref p), some (.ref q), some (vN b), some (vN here), some (.ref S.length), some (.ref (S.length + 1)), x6, x7, x8, x9]) (S := S1) (its := enuI 0 (sh.map vN)) (os := (List.range ts.length).map fun t => if (decide (sh.getD t 0 = here) && !decide (t ∈ way)) = true then some (vN t) else none) (chk := sameAt S1 (.ref q))
      (by simp only [x_itEnum, x_var, List.getElem?_cons_succ, List.getElem?_cons_zero, R.bind_ok, getL_LN hq1]) (by rw [enuI_length, List.length_map]; omega) sameAt_self
      (Paired.of_get (by rw [enuI_length, List.length_map, List.length_map, List.length_range]; omega) fun j it o h1 h2 => by
        obtain ⟨v, e1, rfl⟩ := enuI_get0 h1
        obtain ⟨x, e2, rfl⟩ := map_get e1
        obtain ⟨t, e3, rfl⟩ := map_get h2
        have hjt : t = j := by
          obtain ⟨u1, u2⟩ := List.getElem?_eq_some_iff.mp e3
          rw [List.getElem_range] at u2; omega
        subst hjt
        have e4 : sh.getD t 0 = x := by simp [List.getD, e2]
        rw [e4]
        refine ⟨[some (.ref p), some (.ref q), some (vN b), some (vN here), some (.ref S.length), some (.ref (S.length + 1)), x6, x7, some (vN t), some (vN x)], rfl, ?_, fun y hy => ?_⟩
        · simp only [x_and, x_B, x_op, x_var, List.getElem?_cons_succ, List.getElem?_cons_zero, R.bind_ok, fEq_N, x_asB, fNotIn_LN hw1]
          by_cases e5 : x = here <;> by_cases e6 : t ∈ way <;> simp [e5, e6]
        · by_cases e5 : (decide (x = here) && !decide (t ∈ way)) = true
          · rw [if_pos e5] at hy; cases hy; rfl
          · rw [if_neg e5] at hy; cases hy)
    have hos : ∀ (P : Nat → Bool) (zs : List Nat), (zs.map fun t => if P t = true then some (vN t) else none).filterMap id = (zs.filter P).map vN := fun P zs => by
      induction zs with
      | nil => rfl
      | cons z zs ih =>
        cases e : P z with
        | false => simp only [List.map_cons, e, Bool.false_eq_true, if_false, List.filterMap_cons_none, id_eq, List.filter_cons_of_neg, not_false_eq_true]; exact ih
        | true =>
          simp only [List.map_cons, e, if_true, List.filter_cons_of_pos]
          rw [List.filterMap_cons_some (b := vN z) (by rfl), ih]
    rw [hos, ← hmine] at c1
    have c1' : iLc (itEnum (iVar 1)) (tgTupN 2 [tgName 8, tgName 9]) (iAnd (iB (iOp fEq (iVar 9) (iVar 3))) (iB (iOp (fIn true) (iVar 8) (iVar 4)))) (iVar 8) [8, 9] [some (.ref p), some (.ref q), some (vN b), some (vN here), some (.ref S.length), some (.ref (S.length + 1)), x6, x7, x8, x9] S1 = .ok (.ref S1.length) (S1 ++ [LN mine]) := c1
    obtain ⟨S2, hS2⟩ : ∃ S2, S2 = S1 ++ [LN mine] ++ [Ob.lst []] := ⟨_, rfl⟩
    have hmi : S2[S1.length]? = some (LN mine) := by rw [hS2]; exact get_app get_n0
    have c2 : fEq (.ref S1.length) (.ref (S1 ++ [LN mine]).length) S2 = .ok (.bl (decide (mine = []))) S2 := fEq_LN hmi (by rw [hS2]; exact get_n0)
    have hq2 : S2[q]? = some (LN sh) := by rw [hS2]; exact get_app (get_app hq1)
    have hw2 : S2[S.length]? = some (LN way) := by rw [hS2]; exact get_app (get_app hw1)
    have hm2 : S2[S.length + 1]? = some (LN met) := by rw [hS2]; exact get_app (get_app hm1)
    have eS2 : S2 = S ++ LN way :: LN met :: (G ++ [LN mine, Ob.lst []]) := by rw [hS2, hS1]; simp
    by_cases hem : mine = []
    · rw [decide_eq_true hem] at c2
      have c3 : fList [.ref q] S2 = .ok (.ref S2.length) (S2 ++ [LN sh]) := by
        have h := hq2
        unfold LN at h
        simp only [fList, getQ_lst h]
        rfl
      have eb : tuB [some (.ref p), some (.ref q), some (vN b), some (vN here), some (.ref S.length), some (.ref (S.length + 1)), x6, x7, x8, x9] S1 = .rt (.ref S2.length) (S2 ++ [LN sh]) := by
        simp only [x_seq, x_asg, c1', R.toO_ok, x_tgName, List.set, O.seq_nx, x_sif, x_B, x_op, x_var, List.getElem?_cons_succ, List.getElem?_cons_zero, R.bind_ok, x_lst, x_nil, ← hS2, c2, x_asB, if_true, x_ret, x_cb, x_cons, c3, O.seq_rt]
      rw [eb]
      refine ⟨LN way :: LN met :: (G ++ [LN mine, Ob.lst []]) ++ [LN sh], S2.length, sh, by rw [eS2]; simp, ?_, by rw [eS2]; simp, hs, rfl⟩
      have : S ++ (LN way :: LN met :: (G ++ [LN mine, Ob.lst []]) ++ [LN sh]) = S2 ++ [LN sh] := by rw [eS2]; simp
      rw [this]; exact get_n0
    · rw [decide_eq_false hem] at c2
      have hml0 : 0 < mine.length := List.length_pos_iff.mpr hem
      have hmle : mine.length ≤ ts.length := by rw [hmine]; exact Nat.le_trans (List.length_filter_le _ _) (by simp)
      have c3 : fLen [.ref S1.length] S2 = .ok (vN mine.length) S2 := by
        have h := hmi
        unfold LN at h
        simp only [fLen, getQ_lst h, List.length_map]; rfl
      have c4 : fMod (vN b) (vN mine.length) S2 = .ok (vN (b % mine.length)) S2 := fMod_N (z := (b : Int)) hml0 ((Int.natCast_emod _ _).symm)
      have hbm : b % mine.length < mine.length := Nat.mod_lt _ hml0
      obtain ⟨x, hx⟩ : ∃ x, mine[b % mine.length]? = some x := ⟨mine[b % mine.length], by simp [hbm]⟩
      have c5 : fIx (.ref S1.length) (vN (b % mine.length)) S2 = .ok (vN x) S2 := fIx_lst hmi (vN_get hx)
      have hxm := List.mem_of_getElem? hx
      rw [hmine, List.mem_filter, List.mem_range, Bool.and_eq_true] at hxm
      obtain ⟨hxl, hx1, hx2⟩ := hxm
      have hx1 : sh.getD x 0 = here := of_decide_eq_true hx1
      have hx2 : x ∉ way := by simpa using hx2
      have c6 := mAppend_LN (x := x) hw2 (by omega)
      have eS3 : S2.set S.length (LN (way ++ [x])) = S ++ LN (way ++ [x]) :: LN met :: (G ++ [LN mine, Ob.lst []]) := by rw [eS2, set_n0]
      rw [eS3] at c6
      obtain ⟨S3, hS3⟩ : ∃ S3, S3 = S ++ LN (way ++ [x]) :: LN met :: (G ++ [LN mine, Ob.lst []]) := ⟨_, rfl⟩
      rw [← hS3] at c6
      have hw3 : S3[S.length]? = some (LN (way ++ [x])) := by rw [hS3]; exact get_n0
      have hm3 : S3[S.length + 1]? = some (LN met) := by rw [hS3]; exact get_n1
      have hp3 : S3[p]? = some (.lst vs) := by rw [hS3]; exact get_app hp
      have hq3 : S3[q]? = some (LN sh) := by rw [hS3]; exact get_app hq
      have c7 := last_ix hw3
      have e5 : ts[x]? = some (ts.getD x (0, 0)) := by simp [List.getD, hxl]
      obtain ⟨w, e6, c, rfl, e7⟩ := Paired.getR hv e5
      have c8 : fIx (.ref p) (vN x) S3 = .ok (.ref c) S3 := fIx_lst hp3 e6
      obtain ⟨y, e8, e9⟩ := Paired.get hs e5
      have e10 : sh.getD x 0 = y := by simp [List.getD, e8]
      have c9 := second_ok (S := S3) (q := c) (a := (ts.getD x (0, 0)).1) (b := (ts.getD x (0, 0)).2) (x := here) (by rw [hS3]; exact get_app e7) (by rw [← hx1, e10]; exact e9)
      obtain ⟨sec, hsec⟩ : ∃ sec : Nat → Nat, sec = fun t => (ts.getD t (0, 0)).1 + (ts.getD t (0, 0)).2 - sh.getD t 0 := ⟨_, rfl⟩
      have hqv : (ts.getD x (0, 0)).1 + (ts.getD x (0, 0)).2 - here = sec x := by rw [hsec, ← hx1]
      rw [hqv] at c9
      have hsl : sec x < n := by
        obtain ⟨g1, g2⟩ := ht.gt _ (List.mem_of_getElem? e5)
        rw [← hqv, ← hx1, e10]
        rcases e9 with e | e <;> omega
      have c10 := fIn_LN (x := sec x) hm3
      have tsd : (way ++ [x]).map (fun t => sh.getD t 0) = met := by
        rw [List.map_append, tw.sd, List.map_singleton, hx1]
        have e : met = met.take (way.length + 1) := by rw [← hlen, List.take_length]
        conv => rhs; rw [e, List.take_add_one, hh]
        rfl
      have tan : (way ++ [x]).map sec = met.drop 1 ++ [sec x] := by rw [List.map_append, hsec, tw.an]; rfl
      have twn : (way ++ [x]).Nodup := by
        rw [List.nodup_append]
        exact ⟨tw.wnd, by simp, fun a ha b hb => by rw [List.mem_singleton] at hb; subst hb; rintro rfl; exact hx2 ha⟩
      have twl : ∀ t ∈ way ++ [x], t < ts.length := fun t h => by
        rcases List.mem_append.mp h with h | h
        · exact tw.wlt t h
        · rw [List.mem_singleton] at h; subst h; exact hxl
      by_cases hin : sec x ∈ met
      · rw [decide_eq_true hin] at c10
        obtain ⟨f, hf⟩ : ∃ f, f = met.idxOf (sec x) := ⟨_, rfl⟩
        have hfl : f < met.length := by rw [hf]; exact List.idxOf_lt_length_of_mem hin
        have hfg : met[f]? = some (sec x) := by rw [List.getElem?_eq_getElem hfl]; congr 1; subst hf; exact List.getElem_idxOf _
        have c11 : fList [.ref q] S3 = .ok (.ref S3.length) (S3 ++ [LN sh]) := by
          have h := hq3
          unfold LN at h
          simp only [fList, getQ_lst h]
          rfl
        have c12 := mIndex_LN (x := sec x) (get_app (T := [LN sh]) hm3) hin
        rw [← hf] at c12
        have l1 : getL (S3 ++ [LN sh]) (.ref S.length) = some ((way ++ [x]).map vN) := getL_LN (get_app hw3)
        have l2 : getL (S3 ++ [LN sh]) (.ref (S.length + 1)) = some (met.map vN) := getL_LN (get_app hm3)
        obtain ⟨S4, hS4⟩ : ∃ S4, S4 = S3 ++ [LN sh] ++ [LN ((way ++ [x]).drop f)] := ⟨_, rfl⟩
        have l3 : getL S4 (.ref (S3 ++ [LN sh]).length) = some (((way ++ [x]).drop f).map vN) := by rw [hS4]; exact getL_LN get_n0
        have htl4 : TL S4 p n ts := by rw [hS4, hS3]; exact ht.app.app.app
        have hf4 : S4[S3.length]? = some (LN sh) := by rw [hS4]; exact get_app get_n0
        have hr4 : S4[(S3 ++ [LN sh]).length]? = some (LN ((way ++ [x]).drop f)) := by rw [hS4]; exact get_n0
        have hp3l := glt hp3
        obtain ⟨x8', S5, d1, d2, d3, d4⟩ := pass_ok (x1 := some (.ref q)) (x2 := some (vN b)) (x3 := some (vN (sec x))) (x4 := some (.ref S.length)) (x5 := some (.ref (S.length + 1))) (x6 := some (.ref S1.length)) (x8 := x8) (x9 := x9) htl4 hs hf4 hr4 (by simp) (by omega) (fun t h => twl t (List.mem_of_mem_drop h)) (List.Nodup.sublist (List.drop_sublist _ _) twn)
        have eb : tuB [some (.ref p), some (.ref q), some (vN b), some (vN here), some (.ref S.length), some (.ref (S.length + 1)), x6, x7, x8, x9] S1 = .rt (.ref S3.length) S5 := by
          have vf : vN f = .int (f : Int) := rfl
          simp only [x_seq, x_asg, c1', R.toO_ok, x_tgName, List.set, O.seq_nx, x_sif, x_B, x_op, x_var, List.getElem?_cons_succ, List.getElem?_cons_zero, R.bind_ok, x_lst, x_nil, ← hS2, c2, x_asB, Bool.false_eq_true, if_false, x_next, x_expr, x_bm, getL_LN hw2, x_cons, x_cb, c3, c4, c5, c6, x_call, x_un, x_c, fNeg, c7, c8, c9, c10, if_true, c11, x_for, x_itList, x_sl, x_part, x_noPart, l1, l2, c12, vf, cutf_N, ← hS4, l3, d1, x_ret, O.seq_rt]
        rw [eb]
        have hpre : ∀ a, a < S.length → S5[a]? = S[a]? := fun a ha => by
          have hl3 : S3.length = S.length + 2 + (G ++ [LN mine, Ob.lst []]).length := by rw [hS3]; simp; omega
          rw [d3 a (by omega), hS4, gapp (by simp; omega), gapp (by omega), hS3, gapp ha]
        obtain ⟨T5, hT5⟩ := prefix_of hpre
        refine ⟨T5, S3.length, setAllN sec ((way ++ [x]).drop f) sh, by rw [← hT5], by rw [← hT5, hsec]; exact d4, by rw [hS3]; simp, ?_, ?_⟩
        · refine Paired.of_get (by rw [setAllN_length]; exact hls) fun i t z h1 h2 => ?_
          have hil : i < ts.length := (List.getElem?_eq_some_iff.mp h1).1
          rw [setAllN_get _ _ _ (by omega)] at h2
          obtain ⟨y, e1, e2⟩ := Paired.get hs h1
          have e3 : ts.getD i (0, 0) = t := by simp [List.getD, h1]
          have e4 : sh.getD i 0 = y := by simp [List.getD, e1]
          split at h2
          · cases h2
            have e5 : sec i = t.1 + t.2 - y := by
              rw [hsec]
              show (ts.getD i (0, 0)).1 + (ts.getD i (0, 0)).2 - sh.getD i 0 = _
              rw [e3, e4]
            rw [e5]
            rcases e2 with e | e
            · right; omega
            · left; omega
          · rw [e1] at h2; cases h2; exact e2
        · unfold loadsN
          apply List.map_congr_left
          intro k _
          have hcnt := setAllN_count (f := sec) (s := fun t => sh.getD t 0) k ((way ++ [x]).drop f) sh (List.Nodup.sublist (List.drop_sublist _ _) twn) (fun t h => by
            have := twl t (List.mem_of_mem_drop h)
            simp [List.getD, show t < sh.length by omega])
          have hperm : (((way ++ [x]).drop f).map fun t => sh.getD t 0).Perm (((way ++ [x]).drop f).map sec) := by
            rw [List.map_drop, List.map_drop, tsd, tan, List.drop_append_of_le_length (by rw [List.length_drop]; omega), List.drop_drop]
            have e1 : met.drop f = sec x :: met.drop (f + 1) := by
              rw [List.drop_eq_getElem_cons hfl]
              congr 1
              exact (List.getElem?_eq_some_iff.mp hfg).2
            rw [e1, Nat.add_comm 1 f]
            exact (List.perm_append_singleton _ _).symm
          rw [hperm.count_eq] at hcnt
          omega
      · rw [decide_eq_false hin] at c10
        have c11 := mAppend_LN (x := sec x) hm3 (by omega)
        have eS4 : S3.set (S.length + 1) (LN (met ++ [sec x])) = S ++ LN (way ++ [x]) :: LN (met ++ [sec x]) :: (G ++ [LN mine, Ob.lst []]) := by rw [hS3, set_n1]
        rw [eS4] at c11
        have eb : tuB [some (.ref p), some (.ref q), some (vN b), some (vN here), some (.ref S.length), some (.ref (S.length + 1)), x6, x7, x8, x9] S1 = .nx [some (.ref p), some (.ref q), some (vN b), some (vN (sec x)), some (.ref S.length), some (.ref (S.length + 1)), some (.ref S1.length), x7, x8, x9] (S ++ LN (way ++ [x]) :: LN (met ++ [sec x]) :: (G ++ [LN mine, Ob.lst []])) := by
          simp only [x_seq, x_asg, c1', R.toO_ok, x_tgName, List.set, O.seq_nx, x_sif, x_B, x_op, x_var, List.getElem?_cons_succ, List.getElem?_cons_zero, R.bind_ok, x_lst, x_nil, ← hS2, c2, x_asB, Bool.false_eq_true, if_false, x_next, x_expr, x_bm, getL_LN hw2, x_cons, x_cb, c3, c4, c5, c6, x_call, x_un, x_c, fNeg, c7, c8, c9, c10, getL_LN hm3, c11]
        rw [eb]
        have hnd' : (met ++ [sec x]).Nodup := by
          rw [List.nodup_append]
          exact ⟨tw.nd, by simp, fun a ha b hb => by rw [List.mem_singleton] at hb; subst hb; rintro rfl; exact hin ha⟩
        have hlt' : ∀ z ∈ met ++ [sec x], z < n := fun z hz => by
          rcases List.mem_append.mp hz with h | h
          · exact tw.lt z h
          · rw [List.mem_singleton] at h; subst h; exact hsl
        have hml' := nodup_le hnd' hlt'
        rw [List.length_append, List.length_singleton] at hml'
        refine ⟨n - (met ++ [sec x]).length, by rw [List.length_append, List.length_singleton]; omega, way ++ [x], met ++ [sec x], sec x, _, _, _, _, _, rfl, rfl, ⟨by simp [hlen], hnd', hlt', twn, twl, ?_, ?_⟩, ?_, rfl⟩
        · rw [tsd, List.take_append_of_le_length (by simp [hlen]), show (way ++ [x]).length = met.length by simp [hlen], List.take_length]
        · show (way ++ [x]).map _ = _
          rw [← hsec, tan, List.drop_append_of_le_length (by omega)]
        · rw [show (way ++ [x]).length = met.length by simp [hlen]]; simp
  obtain ⟨T, k, sh', h1, h2, h3, h4, h5⟩ := key
  refine ⟨T, k, sh', ?_, h2, h3, h4, h5⟩
  have e1 : S ++ [Ob.lst []] ++ [Ob.lst [vN b]] ++ [Ob.tup [vN b, .ref S.length, .ref (S ++ [Ob.lst []]).length]] = S ++ [LN [], LN [b], .tup [vN b, .ref S.length, .ref (S.length + 1)]] := by simp [LN]
  have e2 : (S ++ [Ob.lst []]).length = S.length + 1 := by simp
  have gt : getT (S ++ [LN [], LN [b], .tup [vN b, .ref S.length, .ref (S.length + 1)]]) (.ref (S ++ [Ob.lst []] ++ [Ob.lst [vN b]]).length) = some [vN b, .ref S.length, .ref (S.length + 1)] := by
    refine getT_ref ?_
    rw [show (S ++ [Ob.lst []] ++ [Ob.lst [vN b]]).length = S.length + 2 by simp]
    exact get_n2
  simp only [i__law_turned, mk3, List.replicate]
  simp only [x_seq, x_asg, x_tup, x_cons, x_var, x_lst, x_nil, List.getElem?_cons_succ, List.getElem?_cons_zero, R.bind_ok, e1, R.toO_ok, x_tgTup1, gt, List.length_cons, List.length_nil, if_true, x_run1, x_run0, x_tgName, List.set, O.seq_nx, h1, x_val_rt]
end IL

end
section
set_option linter.all false
set_option maxRecDepth 100000
set_option maxHeartbeats 1000000
namespace IL
open PySem L2 MR
/-! one ring around all -/
theorem orbit_up {m : Nat} {P : Nat → Prop} {t : Nat} (ht : t < m) (h : P t) (hs : ∀ t, t < m → P t → P ((t + 1) % m)) : ∀ j, j < m → P j := by
  have up : ∀ (a : Nat), a < m → P a → ∀ k, a + k < m → P (a + k) := fun a ha pa k => by
    induction k with
    | zero => intro _; exact pa
    | succ k ih =>
      intro hk
      have := hs (a + k) (by omega) (ih (by omega))
      rwa [Nat.mod_eq_of_lt (by omega)] at this
  have h1 : P (m - 1) := by have := up t ht h (m - 1 - t) (by omega); rwa [show t + (m - 1 - t) = m - 1 by omega] at this
  have h0 : P 0 := by have := hs (m - 1) (by omega) h1; rwa [show m - 1 + 1 = m by omega, Nat.mod_self] at this
  intro j hj
  have := up 0 (by omega) h0 j (by omega)
  rwa [Nat.zero_add] at this
theorem orbit_down {m : Nat} {P : Nat → Prop} {t : Nat} (ht : t < m) (h : P t) (hs : ∀ t t', t' < m → (t' + 1) % m = t → P t → P t') : ∀ j, j < m → P j := by
  have dn : ∀ (a : Nat), a < m → P a → ∀ k, k ≤ a → P (a - k) := fun a ha pa k => by
    induction k with
    | zero => intro _; exact pa
    | succ k ih =>
      intro hk
      exact hs (a - k) (a - (k + 1)) (by omega) (by rw [show a - (k + 1) + 1 = a - k by omega, Nat.mod_eq_of_lt (by omega)]) (ih (by omega))
  have h0 : P 0 := by have := dn t ht h t (Nat.le_refl _); rwa [Nat.sub_self] at this
  have h1 : P (m - 1) := hs 0 (m - 1) (by omega) (by rw [show m - 1 + 1 = m by omega, Nat.mod_self]) h0
  intro j hj
  have := dn (m - 1) (by omega) h1 (m - 1 - j) (by omega)
  rwa [show m - 1 - (m - 1 - j) = j by omega] at this
/-- rings that hold, each, all there is: one -/
theorem one_ring {m : Nat} {ls : List (List Nat)} (hm : 0 < m) (hp : ls.flatten.Perm (List.range m)) (hne : ∀ l ∈ ls, l ≠ []) (hall : ∀ l ∈ ls, ∀ j, j < m → j ∈ l) : ∃ l, ls = [l] ∧ l.Perm (List.range m) := by
  cases ls with
  | nil => have := hp.length_eq; simp at this; omega
  | cons l rest =>
    have hnd : (l ++ rest.flatten).Nodup := by rw [← List.flatten_cons]; exact (hp.nodup_iff).mpr List.nodup_range
    have he : rest = [] := by
      cases rest with
      | nil => rfl
      | cons r rest =>
        obtain ⟨x, hx⟩ := List.exists_mem_of_ne_nil r (hne r (by simp))
        have hxm : x < m := List.mem_range.mp (hp.subset (by rw [List.flatten_cons, List.flatten_cons]; simp [hx]))
        have h1 := hall l (by simp) x hxm
        rw [List.nodup_append] at hnd
        exact absurd rfl (hnd.2.2 x h1 x (by rw [List.flatten_cons]; simp [hx]))
    subst he
    refine ⟨l, rfl, ?_⟩
    rw [List.flatten_cons, List.flatten_nil, List.append_nil] at hp
    exact hp
/-- a row of m, all unlike -/
structure Row (m : Nat) (row : List Nat) : Prop where
  len : row.length = m
  nd : row.Nodup
  lt : ∀ x ∈ row, x < m
def rot (row : List Nat) : List Nat := row.drop 1 ++ row.take 1
theorem rot_get {m : Nat} {row : List Nat} (h : row.length = m) {t : Nat} (ht : t < m) : (rot row)[t]? = row[(t + 1) % m]? := by
  unfold rot
  by_cases e : t + 1 < m
  · rw [List.getElem?_append_left (by rw [List.length_drop]; omega), List.getElem?_drop, Nat.mod_eq_of_lt e, Nat.add_comm]
  · have e2 : t + 1 = m := by omega
    rw [List.getElem?_append_right (by rw [List.length_drop]; omega), List.length_drop, e2, Nat.mod_self, h]
    rw [show t - (m - 1) = 0 by omega, List.getElem?_take_of_lt (by omega)]
theorem rot_length (row : List Nat) : (rot row).length = row.length := by unfold rot; simp; omega
theorem rot_perm (row : List Nat) : (rot row).Perm row := by
  unfold rot
  exact List.perm_append_comm.trans (by rw [List.take_append_drop])
def aTs (m : Nat) (row : List Nat) : List (Nat × Nat) := (List.range m).map fun t => (min (row.getD t 0) (row.getD ((t + 1) % m) 0), max (row.getD t 0) (row.getD ((t + 1) % m) 0))
theorem aTs_length (m : Nat) (row : List Nat) : (aTs m row).length = m := by unfold aTs; simp
section
variable {m : Nat} {row : List Nat}
theorem Row.inj (r : Row m row) {i j : Nat} (hi : i < m) (hj : j < m) (e : row.getD i 0 = row.getD j 0) : i = j := by
  have h1 : row[i]? = some (row.getD i 0) := by simp [List.getD, show i < row.length by rw [r.len]; exact hi]
  have h2 : row[j]? = some (row.getD j 0) := by simp [List.getD, show j < row.length by rw [r.len]; exact hj]
  exact (List.getElem?_inj (by rw [r.len]; exact hi) r.nd).mp (by rw [h1, h2, e])
theorem Row.get (r : Row m row) {i : Nat} (hi : i < m) : row[i]? = some (row.getD i 0) := by simp [List.getD, show i < row.length by rw [r.len]; exact hi]
theorem Row.glt (r : Row m row) {i : Nat} (hi : i < m) : row.getD i 0 < m := r.lt _ (List.mem_of_getElem? (r.get hi))
theorem Row.rotD (r : Row m row) {i : Nat} (hi : i < m) : (rot row).getD i 0 = row.getD ((i + 1) % m) 0 := by
  rw [List.getD_eq_getElem?_getD, rot_get r.len hi, ← List.getD_eq_getElem?_getD]
theorem aTs_gt (r : Row m row) (h3 : 3 ≤ m) : GT m (aTs m row) := fun t ht => by
  unfold aTs at ht
  obtain ⟨i, hi, rfl⟩ := List.mem_map.mp ht
  have hi' := List.mem_range.mp hi
  have hj : (i + 1) % m < m := Nat.mod_lt _ (by omega)
  have h1 := r.glt hi'
  have h2 := r.glt hj
  have hne : row.getD i 0 ≠ row.getD ((i + 1) % m) 0 := fun e => by
    have := r.inj hi' hj e
    by_cases q : i + 1 < m
    · rw [Nat.mod_eq_of_lt q] at this; omega
    · rw [show i + 1 = m by omega, Nat.mod_self] at this; omega
  show min _ _ < max _ _ ∧ max _ _ < m
  omega
theorem aTs_get {i : Nat} (hi : i < m) : (aTs m row)[i]? = some (min (row.getD i 0) (row.getD ((i + 1) % m) 0), max (row.getD i 0) (row.getD ((i + 1) % m) 0)) := by unfold aTs; simp [hi]
theorem aTs_gs1 (r : Row m row) : GS (aTs m row) row := Paired.of_get (by rw [aTs_length, r.len]) fun i t x h1 h2 => by
  have hi : i < m := by have := (List.getElem?_eq_some_iff.mp h1).1; rwa [aTs_length] at this
  rw [aTs_get hi] at h1; cases h1
  rw [r.get hi] at h2; cases h2
  show _ = min _ _ ∨ _ = max _ _
  omega
theorem aTs_gs2 (r : Row m row) : GS (aTs m row) (rot row) := Paired.of_get (by rw [aTs_length, rot_length, r.len]) fun i t x h1 h2 => by
  have hi : i < m := by have := (List.getElem?_eq_some_iff.mp h1).1; rwa [aTs_length] at this
  rw [aTs_get hi] at h1; cases h1
  rw [rot_get r.len hi, r.get (Nat.mod_lt _ (by omega))] at h2; cases h2
  show _ = min _ _ ∨ _ = max _ _
  omega
theorem a_all {sh an : List Nat} (r : Row m row) (h3 : 3 ≤ m) {ls : List (List Nat)} (ma : RMa m (aTs m row) sh an ls) (hd : ∀ t, t < m → sh.getD t 0 ≠ an.getD t 0)
    (hall : ∀ l ∈ ls, ∀ j, j < m → j ∈ l) : ∃ l, ls = [l] ∧ l.Perm (List.range m) := by
  refine one_ring (by omega) ?_ (fun l hl => (ma.ok l hl).1) hall
  have := ma.pm
  rw [aTs_length] at this
  have e : ((List.range m).filter fun t => decide (sh.getD t 0 ≠ an.getD t 0)) = List.range m := List.filter_eq_self.mpr fun t ht => decide_eq_true (hd t (List.mem_range.mp ht))
  rwa [e] at this
theorem sec_mem {sh l : List Nat} {f : Nat → Nat} (h : l.map f = (l.map fun t => sh.getD t 0).drop 1 ++ (l.map fun t => sh.getD t 0).take 1) {t : Nat} (ht : t ∈ l) : ∃ t' ∈ l, sh.getD t' 0 = f t := by
  have h1 : f t ∈ l.map f := List.mem_map.mpr ⟨t, ht, rfl⟩
  rw [h] at h1
  have h2 : f t ∈ l.map fun t => sh.getD t 0 := by
    rcases List.mem_append.mp h1 with h | h
    · exact List.mem_of_mem_drop h
    · exact List.mem_of_mem_take h
  obtain ⟨t', q1, q2⟩ := List.mem_map.mp h2
  exact ⟨t', q1, q2⟩
theorem a_ne (r : Row m row) (h3 : 3 ≤ m) {t : Nat} (ht : t < m) : row.getD t 0 ≠ (rot row).getD t 0 := fun e => by
  rw [r.rotD ht] at e
  have := r.inj ht (Nat.mod_lt _ (by omega)) e
  by_cases q : t + 1 < m
  · rw [Nat.mod_eq_of_lt q] at this; omega
  · rw [show t + 1 = m by omega, Nat.mod_self] at this; omega
theorem around1 (r : Row m row) (h3 : 3 ≤ m) {ls : List (List Nat)} (ma : RMa m (aTs m row) row (rot row) ls) : ∃ l, ls = [l] ∧ l.Perm (List.range m) := by
  refine a_all r h3 ma (fun t ht => a_ne r h3 ht) fun l hl => ?_
  obtain ⟨m1, m2, m3, m4⟩ := ma.ok l hl
  rw [aTs_length] at m2
  obtain ⟨t, ht⟩ := List.exists_mem_of_ne_nil l m1
  refine orbit_up (P := fun j => j ∈ l) (m2 t ht) ht fun t htm htl => ?_
  obtain ⟨t', q1, q2⟩ := sec_mem m4 htl
  have e : (aTs m row).getD t (0, 0) = (min (row.getD t 0) (row.getD ((t + 1) % m) 0), max (row.getD t 0) (row.getD ((t + 1) % m) 0)) := by rw [List.getD_eq_getElem?_getD, aTs_get htm]; rfl
  have hsec : row.getD t' 0 = row.getD ((t + 1) % m) 0 := by
    rw [q2, e]; show min _ _ + max _ _ - _ = _; omega
  rw [← r.inj (m2 t' q1) (Nat.mod_lt _ (by omega)) hsec]; exact q1
theorem around2 (r : Row m row) (h3 : 3 ≤ m) {ls : List (List Nat)} (ma : RMa m (aTs m row) (rot row) row ls) : ∃ l, ls = [l] ∧ l.Perm (List.range m) := by
  refine a_all r h3 ma (fun t ht => Ne.symm (a_ne r h3 ht)) fun l hl => ?_
  obtain ⟨m1, m2, m3, m4⟩ := ma.ok l hl
  rw [aTs_length] at m2
  obtain ⟨t, ht⟩ := List.exists_mem_of_ne_nil l m1
  refine orbit_down (P := fun j => j ∈ l) (m2 t ht) ht fun t t0 ht0 e0 htl => ?_
  have htm := m2 t htl
  obtain ⟨t', q1, q2⟩ := sec_mem m4 htl
  have e : (aTs m row).getD t (0, 0) = (min (row.getD t 0) (row.getD ((t + 1) % m) 0), max (row.getD t 0) (row.getD ((t + 1) % m) 0)) := by rw [List.getD_eq_getElem?_getD, aTs_get htm]; rfl
  rw [e, r.rotD htm, r.rotD (m2 t' q1)] at q2
  have hsec : row.getD ((t' + 1) % m) 0 = row.getD t 0 := by
    rw [q2]; show min _ _ + max _ _ - _ = _; omega
  have e1 := r.inj (Nat.mod_lt _ (by omega)) htm hsec
  have : t' = t0 := by
    rw [← e0] at e1
    have := m2 t' q1
    by_cases a1 : t' + 1 < m <;> by_cases a2 : t0 + 1 < m
    · rw [Nat.mod_eq_of_lt a1, Nat.mod_eq_of_lt a2] at e1; omega
    · rw [Nat.mod_eq_of_lt a1, show t0 + 1 = m by omega, Nat.mod_self] at e1; omega
    · rw [Nat.mod_eq_of_lt a2, show t' + 1 = m by omega, Nat.mod_self] at e1; omega
    · omega
  rw [← this]; exact q1
theorem around_loads (r : Row m row) : loadsN m row = loadsN m (rot row) := by
  unfold loadsN
  apply List.map_congr_left
  intro k _
  exact ((rot_perm row).count_eq k).symm
end
end IL

end
section
set_option linter.all false
set_option maxRecDepth 100000
set_option maxHeartbeats 1000000
namespace IL
open PySem L2 MR
/-- [e for i in range(n)], ints -/
theorem lc_rngN {S : Sto} {n j : Nat} {f : Nat → Nat} {ie : IE} {ρ : Env} {ii : IE} (hi : ii ρ S = .ok (vN n) S) (hn : n ≤ 1000) (he : ∀ i, i < n → ie ((wipeE ρ [j]).set j (some (vN i))) S = .ok (vN (f i)) S) :
    iLc (itRng ii) (tgName j) iYes ie [j] ρ S = .ok (.ref S.length) (S ++ [LN ((List.range n).map f)]) := by
  have hrl : (rng 0 (n : Int)).length = n := by unfold rng; simp
  have := lcr_run0 (ii := itRng ii) (tg := tgName j) (tt := iYes) (ie := ie) (vs := [j]) (ρ := ρ) (S := S) (its := (rng 0 (n : Int)).map fun i => .one (.int i)) (os := (List.range n).map fun i => some (vN (f i))) (chk := fun _ => true)
    (by simp only [x_itRng, hi, R.bind_ok, vN]; rw [if_pos (by omega)]) (by rw [List.length_map, hrl]; omega) rfl (Paired.of_get (by rw [List.length_map, List.length_map, hrl, List.length_range]) fun k it o h1 h2 => by
      obtain ⟨i, e1, rfl⟩ := map_get h1
      obtain ⟨t, e2, rfl⟩ := map_get h2
      have htk : t = k := by
        obtain ⟨u1, u2⟩ := List.getElem?_eq_some_iff.mp e2
        rw [List.getElem_range] at u2; omega
      subst htk
      have htl : t < n := by have := (List.getElem?_eq_some_iff.mp e2).1; rwa [List.length_range] at this
      have hi : i = (t : Int) := by
        unfold rng at e1
        obtain ⟨y, e3, rfl⟩ := map_get e1
        obtain ⟨u1, u2⟩ := List.getElem?_eq_some_iff.mp e3
        rw [List.getElem_range] at u2; omega
      subst hi
      exact ⟨_, rfl, rfl, fun y hy => by cases hy; exact he t htl⟩)
  rw [fmap_some] at this
  rw [this]
  unfold LN
  rw [List.map_map]
  rfl
theorem rngI (n : Nat) : (rng 0 (n : Int)) = (List.range n).map fun (i : Nat) => (i : Int) := by
  unfold rng
  rw [Int.sub_zero, Int.toNat_natCast]
  apply List.map_congr_left
  intro i _
  omega
theorem srt_nat (ns : List Nat) : ∃ os : List Nat, srt (ns.map fun (x : Nat) => (x : Int)) = os.map (fun (x : Nat) => (x : Int)) ∧ os.Perm ns := by
  refine ⟨(srt (ns.map fun (x : Nat) => (x : Int))).map Int.toNat, ?_, ?_⟩
  · rw [List.map_map]
    have : ∀ z ∈ srt (ns.map fun (x : Nat) => (x : Int)), ((fun (x : Nat) => (x : Int)) ∘ Int.toNat) z = z := fun z hz => by
      have := (srt_perm _).subset hz
      obtain ⟨x, _, rfl⟩ := List.mem_map.mp this
      simp
    rw [List.map_congr_left this]; simp
  · have h := (srt_perm (ns.map fun (x : Nat) => (x : Int))).map Int.toNat
    rw [List.map_map] at h
    have e : ns.map (Int.toNat ∘ fun (x : Nat) => (x : Int)) = ns := by
      rw [List.map_congr_left (g := id) fun x _ => by simp]; simp
    rwa [e] at h
theorem fSorted_N {S : Sto} {p : Nat} {ns os : List Nat} (h : S[p]? = some (LN ns)) (ho : srt (ns.map fun (x : Nat) => (x : Int)) = os.map fun (x : Nat) => (x : Int)) : fSorted [.ref p] S = .ok (.ref S.length) (S ++ [LN os]) := by
  simp only [fSorted, getL_LN h, Option.bind_some, asIs_N, ho]
  unfold LN
  rw [map_vN]
theorem srt_two (a b : Nat) : srt ([a, b].map fun (x : Nat) => (x : Int)) = [min a b, max a b].map fun (x : Nat) => (x : Int) := by
  apply srt_of
  · by_cases h : a ≤ b
    · rw [Nat.min_eq_left h, Nat.max_eq_right h]
    · rw [Nat.min_eq_right (by omega), Nat.max_eq_left (by omega)]; exact List.Perm.swap _ _ _
  · simp; omega
noncomputable abbrev arT : IE := (iCB fTuple (iCons (iCB fSorted (iCons (iLst (iCons (iOp fIx (iVar 4) (iVar 11)) (iCons (iOp fIx (iVar 4) (iOp fMod (iOp fAdd (iVar 11) (iC (.int 1))) (iVar 0))) iNil))) iNil)) iNil))
theorem lc_tasks {m ra : Nat} {row : List Nat} {S0 : Sto} {ρ : Env} (r : Row m row) (hm : 0 < m) (hr : S0[ra]? = some (LN row)) (h0 : ρ[0]? = some (some (vN m))) (h4 : ρ[4]? = some (some (.ref ra))) (hl : 11 < ρ.length) :
    ∀ (zs : List Nat) (T : Sto), (∀ z ∈ zs, z < m) → ∃ vs G, lcL (fun _ => true) (tgName 11) iYes arT ρ (zs.map fun z => It1.one (vN z)) (S0 ++ T) = .ok vs (S0 ++ T ++ G) ∧ Tks (S0 ++ T ++ G) vs (zs.map fun t => (min (row.getD t 0) (row.getD ((t + 1) % m) 0), max (row.getD t 0) (row.getD ((t + 1) % m) 0)))
  | [], T, _ => ⟨[], [], by simp [lcL], .nil⟩
  | z :: zs, T, h => by
    have hz := h z List.mem_cons_self
    have g1 : ∀ T, fIx (.ref ra) (vN z) (S0 ++ T) = .ok (vN (row.getD z 0)) (S0 ++ T) := fun T => fIx_lst (get_app hr) (vN_get (r.get hz))
    have g2 : ∀ T, fIx (.ref ra) (vN ((z + 1) % m)) (S0 ++ T) = .ok (vN (row.getD ((z + 1) % m) 0)) (S0 ++ T) := fun T => fIx_lst (get_app hr) (vN_get (r.get (Nat.mod_lt _ hm)))
    have g3 : ∀ S, fAdd (vN z) (.int 1) S = .ok (.int ((z : Int) + 1)) S := fun S => rfl
    have g4 : ∀ S, fMod (.int ((z : Int) + 1)) (vN m) S = .ok (vN ((z + 1) % m)) S := fun S => fMod_N hm (by rw [show ((z : Int) + 1) = ((z + 1 : Nat) : Int) by omega]; exact (Int.natCast_emod _ _).symm)
    obtain ⟨a, ha⟩ : ∃ a, a = row.getD z 0 := ⟨_, rfl⟩
    obtain ⟨b, hb⟩ : ∃ b, b = row.getD ((z + 1) % m) 0 := ⟨_, rfl⟩
    rw [← ha] at g1
    rw [← hb] at g2
    have v11 : (ρ.set 11 (some (vN z)))[11]? = some (some (vN z)) := by rw [List.getElem?_set_self hl]
    have v0 : (ρ.set 11 (some (vN z)))[0]? = some (some (vN m)) := by rw [List.getElem?_set_ne (by omega)]; exact h0
    have v4 : (ρ.set 11 (some (vN z)))[4]? = some (some (.ref ra)) := by rw [List.getElem?_set_ne (by omega)]; exact h4
    have g5 : fSorted [.ref (S0 ++ T).length] (S0 ++ T ++ [Ob.lst [vN a, vN b]]) = .ok (.ref (S0 ++ T ++ [Ob.lst [vN a, vN b]]).length) (S0 ++ T ++ [Ob.lst [vN a, vN b]] ++ [LN [min a b, max a b]]) := fSorted_N (ns := [a, b]) get_n0 (srt_two a b)
    have g6 : fTuple [.ref (S0 ++ T ++ [Ob.lst [vN a, vN b]]).length] (S0 ++ T ++ [Ob.lst [vN a, vN b]] ++ [LN [min a b, max a b]]) = .ok (.ref (S0 ++ T ++ [Ob.lst [vN a, vN b]] ++ [LN [min a b, max a b]]).length) (S0 ++ T ++ [Ob.lst [vN a, vN b]] ++ [LN [min a b, max a b]] ++ [.tup [vN (min a b), vN (max a b)]]) := by
      simp only [fTuple, getL_LN (get_n0 (T := []))]; rfl
    obtain ⟨vs, G, i1, i2⟩ := lc_tasks r hm hr h0 h4 hl zs (T ++ [Ob.lst [vN a, vN b], LN [min a b, max a b], .tup [vN (min a b), vN (max a b)]]) fun y hy => h y (List.mem_cons_of_mem _ hy)
    have eS : S0 ++ T ++ [Ob.lst [vN a, vN b]] ++ [LN [min a b, max a b]] ++ [.tup [vN (min a b), vN (max a b)]] = S0 ++ (T ++ [Ob.lst [vN a, vN b], LN [min a b, max a b], .tup [vN (min a b), vN (max a b)]]) := by simp
    have eF : S0 ++ (T ++ [Ob.lst [vN a, vN b], LN [min a b, max a b], .tup [vN (min a b), vN (max a b)]]) ++ G = S0 ++ T ++ ([Ob.lst [vN a, vN b], LN [min a b, max a b], .tup [vN (min a b), vN (max a b)]] ++ G) := by simp
    refine ⟨.ref (S0 ++ T ++ [Ob.lst [vN a, vN b]] ++ [LN [min a b, max a b]]).length :: vs, [Ob.lst [vN a, vN b], LN [min a b, max a b], .tup [vN (min a b), vN (max a b)]] ++ G, ?_, ?_⟩
    · simp only [List.map_cons, lcL, if_true, x_tgName, R.bindN_ok, x_yes, x_cb, x_cons, x_lst, x_op, x_var, v11, v0, v4, R.bind_ok, g1, g2, g3, g4, x_c, x_nil, g5, g6, eS, i1, eF]
    · rw [← eF]
      refine .cons ⟨_, rfl, ?_⟩ i2
      show _ = some (Ob.tup [vN (min (row.getD z 0) (row.getD ((z + 1) % m) 0)), vN (max (row.getD z 0) (row.getD ((z + 1) % m) 0))])
      rw [← ha, ← hb, ← eS]
      exact get_app get_n0
theorem nm_inj {c i j : Nat} (hi : i < 61) (hj : j < 61) (h : (c + 11 * i) % 61 = (c + 11 * j) % 61) : i = j := by omega
noncomputable def arB : IS := (sSeq (sAsg (iCall i_rings (iCons (iVar 0) (iCons (iVar 5) (iCons (iVar 7) (iCons (iVar 8) iNil))))) (tgName 9))
  (sIf (IL.iOr (iB (iOp fNe (iCB fLen (iCons (iVar 9) iNil)) (iC (.int 1)))) (IL.iOr (iB (iOp fNe (iCB fSorted (iCons (iOp fIx (iVar 9) (iC (.int 0))) iNil)) (iListRg (iVar 0)))) (iNot (iB (iCall i__law_right (iCons (iVar 0) (iCons (iVar 5) (iCons (iVar 7) (iCons (iVar 8) iNil))))))))) (sRet (iC (.bl false))) sNext))
theorem around_ok {S : Sto} {m : Nat} {w : Int} (h3 : 3 ≤ m) (h60 : m ≤ 60) (hw : bits w ≤ 1048700) : ∃ T, i__law_around_right [vN m, .int w] S = .ok (.bl true) (S ++ T) := by
  -- names
  obtain ⟨c, hc, ec⟩ := emod_nat (w * 7) 61 (by omega)
  have mul7 : ∀ S, fMul (.int w) (.int 7) S = .ok (.int (w * 7)) S := fun S => fMul_ii (PyProof.Rows.mulOk_of_bits hw (bits_small (k := 5) (by decide)) (by omega))
  have c1 := lc_rngN (S := S) (n := m) (j := 7) (f := fun i => (c + 11 * i) % 61) (ie := iOp fMod (iOp fAdd (iOp fMul (iVar 1) (iC (.int 7))) (iOp fMul (iVar 7) (iC (.int 11)))) (iC (.int 61))) (ρ := [some (vN m), some (.int w), none, none, none, none, none, none, none, none, none, none]) (ii := iVar 0) rfl (by omega) (fun i hi => by
    have mi : fMul (vN i) (.int 11) S = .ok (.int ((i : Int) * 11)) S := fMul_ii (mulOk_nat (y := 11) (by omega) (by omega))
    have ad : fAdd (.int (w * 7)) (.int ((i : Int) * 11)) S = .ok (.int (w * 7 + (i : Int) * 11)) S := rfl
    have md : fMod (.int (w * 7 + (i : Int) * 11)) (.int 61) S = .ok (vN ((c + 11 * i) % 61)) S := by
      refine fMod_N (n := 61) (by omega) ?_
      rw [show ((61 : Nat) : Int) = 61 from rfl] at ec ⊢
      omega
    simp only [x_op, x_var, x_wipe1, x_wipe0, List.set, List.getElem?_cons_succ, List.getElem?_cons_zero, R.bind_ok, x_c, mul7, mi, ad, md])
  obtain ⟨ns, hns⟩ : ∃ ns, ns = (List.range m).map fun i => (c + 11 * i) % 61 := ⟨_, rfl⟩
  rw [← hns] at c1
  have hnl : ns.length = m := by rw [hns]; simp
  have hnd : ns.Nodup := by
    rw [hns]
    show List.Pairwise (· ≠ ·) _
    rw [List.pairwise_map, List.pairwise_iff_getElem]
    intro i j hi hj hij
    rw [List.getElem_range, List.getElem_range]
    simp at hi hj
    intro e
    have := nm_inj (by omega) (by omega) e
    omega
  obtain ⟨os, ho1, ho2⟩ := srt_nat ns
  have hond : os.Nodup := (ho2.nodup_iff).mpr hnd
  have hol : os.length = m := by rw [ho2.length_eq, hnl]
  have c2 := fSorted_N (S := S ++ [LN ns]) (p := S.length) get_n0 ho1
  obtain ⟨S2, hS2⟩ : ∃ S2, S2 = S ++ [LN ns] ++ [LN os] := ⟨_, rfl⟩
  rw [← hS2] at c2
  have hn2 : S2[S.length]? = some (LN ns) := by rw [hS2]; exact get_app get_n0
  have ho2' : S2[(S ++ [LN ns]).length]? = some (LN os) := by rw [hS2]; exact get_n0
  have c3 := lc_N (S := S2) (a := S.length) (j := 10) (l := ns) (f := fun x => vN (os.idxOf x)) (ie := iBM mIndex (iVar 3) (iCons (iVar 10) iNil)) (ρ := [some (vN m), some (.int w), some (.ref S.length), some (.ref (S ++ [LN ns]).length), none, none, none, none, none, none, none, none]) (ii := iVar 2) rfl hn2 (by omega) (fun x hx => by
    have := mIndex_LN (x := x) ho2' (ho2.symm.subset hx)
    simp only [x_bm, x_var, x_wipe1, x_wipe0, List.set, List.getElem?_cons_succ, List.getElem?_cons_zero, R.bind_ok, getL_LN ho2', x_cons, x_nil, this])
  obtain ⟨row, hrow⟩ : ∃ row, row = ns.map fun x => os.idxOf x := ⟨_, rfl⟩
  have er : Ob.lst (ns.map fun x => vN (os.idxOf x)) = LN row := by rw [hrow]; unfold LN; rw [List.map_map]; rfl
  rw [er] at c3
  have r : Row m row := by
    refine ⟨by rw [hrow, List.length_map, hnl], ?_, fun x hx => ?_⟩
    · rw [hrow]
      have h : List.Pairwise (· ≠ ·) ns := hnd
      show List.Pairwise (· ≠ ·) _
      rw [List.pairwise_iff_getElem] at h ⊢
      intro i j hi hj hij
      simp only [List.length_map] at hi hj
      rw [List.getElem_map, List.getElem_map]
      intro e
      refine h i j hi hj hij ?_
      have m1 : ns[i] ∈ os := ho2.symm.subset (List.getElem_mem _)
      have m2 : ns[j] ∈ os := ho2.symm.subset (List.getElem_mem _)
      have e1 := List.getElem_idxOf (List.idxOf_lt_length_of_mem m1)
      have e2 := List.getElem_idxOf (List.idxOf_lt_length_of_mem m2)
      rw [← e1, ← e2]
      congr 1
    · rw [hrow] at hx
      obtain ⟨y, hy, rfl⟩ := List.mem_map.mp hx
      rw [← hol]
      exact List.idxOf_lt_length_of_mem (ho2.symm.subset hy)
  obtain ⟨S3, hS3⟩ : ∃ S3, S3 = S2 ++ [LN row] := ⟨_, rfl⟩
  rw [← hS3] at c3
  have hr3 : S3[S2.length]? = some (LN row) := by rw [hS3]; exact get_n0
  -- tasks
  obtain ⟨vs, G, d1, d2⟩ := lc_tasks (ρ := wipeE [some (vN m), some (.int w), some (.ref S.length), some (.ref (S ++ [LN ns]).length), some (.ref S2.length), none, none, none, none, none, none, none] [11]) (S0 := S3) r (by omega) hr3 rfl rfl (by simp) (List.range m) [] (fun z hz => List.mem_range.mp hz)
  rw [List.append_nil] at d1 d2
  have c4 : iLc (itRng (iVar 0)) (tgName 11) iYes arT [11] [some (vN m), some (.int w), some (.ref S.length), some (.ref (S ++ [LN ns]).length), some (.ref S2.length), none, none, none, none, none, none, none] S3 = .ok (.ref (S3 ++ G).length) (S3 ++ G ++ [.lst vs]) := by
    have e : ((rng 0 (m : Int)).map fun i => It1.one (.int i)) = (List.range m).map fun z => It1.one (vN z) := by rw [rngI, List.map_map]; rfl
    have h100 : ((-100000 : Int) ≤ m ∧ (m : Int) ≤ 100000) := by omega
    have e2 : itRng (iVar 0) [some (vN m), some (.int w), some (.ref S.length), some (.ref (S ++ [LN ns]).length), some (.ref S2.length), none, none, none, none, none, none, none] S3 = .ok ⟨(List.range m).map fun z => It1.one (vN z), fun _ => true⟩ S3 := by
      simp only [x_itRng, x_var, List.getElem?_cons_zero, R.bind_ok, vN, h100, and_self, if_true]
      rw [rngI, List.map_map]; rfl
    simp only [iLc, e2, R.bind_ok, List.length_map, List.length_range]
    rw [if_pos (by omega), d1]
    rfl
  obtain ⟨S4, hS4⟩ : ∃ S4, S4 = S3 ++ G ++ [Ob.lst vs] := ⟨_, rfl⟩
  obtain ⟨tp, htp⟩ : ∃ tp, tp = (S3 ++ G).length := ⟨_, rfl⟩
  rw [← hS4, ← htp] at c4
  have tl4 : TL S4 tp m (aTs m row) := ⟨⟨vs, by rw [hS4, htp]; exact get_n0, by rw [hS4]; exact Tks.app d2⟩, aTs_gt r h3⟩
  have hr4 : S4[S2.length]? = some (LN row) := by rw [hS4]; exact get_app (get_app hr3)
  -- there
  have cf : Ob.lst (cut (row.map vN) (some 1) none) = LN (row.drop 1) := cutf_N row 1
  have ct : Ob.lst (cut (row.map vN) none (some 1)) = LN (row.take 1) := cutt_N row 1
  have l4 : getL S4 (.ref S2.length) = some (row.map vN) := getL_LN hr4
  have l5 : getL (S4 ++ [LN (row.drop 1)]) (.ref S2.length) = some (row.map vN) := getL_LN (get_app hr4)
  have c5 : fAdd (.ref S4.length) (.ref (S4 ++ [LN (row.drop 1)]).length) (S4 ++ [LN (row.drop 1)] ++ [LN (row.take 1)]) = .ok (.ref (S4 ++ [LN (row.drop 1)] ++ [LN (row.take 1)]).length) (S4 ++ [LN (row.drop 1)] ++ [LN (row.take 1)] ++ [LN (rot row)]) :=
    fAdd_LN (get_app get_n0) get_n0 (by rw [List.length_drop, List.length_take, r.len]; omega)
  obtain ⟨th, hth⟩ : ∃ th, th = (S4 ++ [LN (row.drop 1)] ++ [LN (row.take 1)]).length := ⟨_, rfl⟩
  obtain ⟨S5, hS5⟩ : ∃ S5, S5 = S4 ++ [LN (row.drop 1)] ++ [LN (row.take 1)] ++ [LN (rot row)] := ⟨_, rfl⟩
  rw [← hS5, ← hth] at c5
  have tl5 : TL S5 tp m (aTs m row) := by rw [hS5]; exact tl4.app.app.app
  have hr5 : S5[S2.length]? = some (LN row) := by rw [hS5]; exact get_app (get_app (get_app hr4))
  have ht5 : S5[th]? = some (LN (rot row)) := by rw [hS5, hth]; exact get_n0
  -- one look
  have look : ∀ {S' : Sto} {q1 q2 : Nat} {sh an : List Nat} {y2 y3 y4 y6 y9 y10 y11 : Option Va}, TL S' tp m (aTs m row) → S'[q1]? = some (LN sh) → S'[q2]? = some (LN an) → GS (aTs m row) sh → GS (aTs m row) an → loadsN m sh = loadsN m an →
      (∀ ls, RMa m (aTs m row) sh an ls → ∃ l, ls = [l] ∧ l.Perm (List.range m)) → ∃ T y9', arB [some (vN m), some (.int w), y2, y3, y4, some (.ref tp), y6, some (.ref q1), some (.ref q2), y9, y10, y11] S' = .nx [some (vN m), some (.int w), y2, y3, y4, some (.ref tp), y6, some (.ref q1), some (.ref q2), y9', y10, y11] (S' ++ T) := by
    intro S' q1 q2 sh an y2 y3 y4 y6 y9 y10 y11 htl hq1 hq2 hs ha hb hone
    obtain ⟨vs', hp, hv⟩ := htl.ex
    obtain ⟨T1, k, fr, e1, e2, e3, e4, e5⟩ := rings_run hp hv htl.gt (by omega) h60 (by rw [aTs_length]; omega) hq1 hs hq2 ha hb
    have ma := rings_ma htl.gt hs ha hb
    obtain ⟨l, hl1, hl2⟩ := hone _ ma
    rw [hl1] at e5
    have hfr : fr.length = 1 := Paired.len e5
    obtain ⟨a, rfl⟩ : ∃ a, fr = [a] := List.length_eq_one_iff.mp hfr
    obtain ⟨_, e7⟩ : k < a ∧ (S' ++ T1)[a]? = some (LN l) := by cases e5 with | cons e6 _ => exact e6
    have f1 : fLen [.ref k] (S' ++ T1) = .ok (.int 1) (S' ++ T1) := by simp only [fLen, getQ_lst e3]; rfl
    have f2 : fNe (.int 1) (.int 1) (S' ++ T1) = .ok (.bl false) (S' ++ T1) := fNe_N (x := 1) (y := 1)
    have f3 : fIx (.ref k) (.int 0) (S' ++ T1) = .ok (.ref a) (S' ++ T1) := fIx_lst (k := 0) e3 rfl
    have f4 : srt (l.map fun (x : Nat) => (x : Int)) = (List.range m).map fun (x : Nat) => (x : Int) := srt_of (hl2.symm.map _) (List.Pairwise.map _ (fun a b h => h) (List.Pairwise.imp (R := fun a b => a < b) (fun h => by omega) List.pairwise_lt_range))
    have f5 := fSorted_N e7 f4
    have h100 : (0 : Int) ≤ m ∧ (m : Int) ≤ 100000 := by omega
    have f6 : ∀ (ρ : Env) (S9 : Sto), iListRg (iVar 0) (some (vN m) :: ρ) S9 = .ok (.ref S9.length) (S9 ++ [LN (List.range m)]) := fun ρ S9 => by
      simp only [x_listRg, x_var, List.getElem?_cons_zero, R.bind_ok, vN, h100, and_self, if_true]
      rw [rngI]
      unfold LN
      rw [map_vN]
    have f7 : fNe (.ref (S' ++ T1).length) (.ref (S' ++ T1 ++ [LN (List.range m)]).length) (S' ++ T1 ++ [LN (List.range m)] ++ [LN (List.range m)]) = .ok (.bl false) (S' ++ T1 ++ [LN (List.range m)] ++ [LN (List.range m)]) := by
      rw [fNe_LN (get_app get_n0) get_n0]; simp
    obtain ⟨T2, f8⟩ := right_ok (S := S' ++ T1 ++ [LN (List.range m)] ++ [LN (List.range m)]) htl.app.app.app (get_app (get_app (get_app hq1))) (get_app (get_app (get_app hq2))) hs ha hb (by omega) h60 (by rw [aTs_length]; omega)
    refine ⟨T1 ++ [LN (List.range m)] ++ [LN (List.range m)] ++ T2, some (.ref k), ?_⟩
    have eF : S' ++ (T1 ++ [LN (List.range m)] ++ [LN (List.range m)] ++ T2) = S' ++ T1 ++ [LN (List.range m)] ++ [LN (List.range m)] ++ T2 := by simp
    rw [eF]
    unfold arB
    simp only [x_seq, x_asg, x_call, x_cons, x_nil, x_var, List.getElem?_cons_succ, List.getElem?_cons_zero, R.bind_ok, e1, R.toO_ok, x_tgName, List.set, O.seq_nx, x_sif, x_or, x_B, x_op, x_cb, f1, x_c, f2, x_asB, Bool.false_eq_true, if_false, f3, f5, f6, f7, x_not, f8, Bool.not_true, x_next]
  obtain ⟨S6, hS6⟩ : ∃ S6, S6 = S5 ++ [Ob.tup [.ref S2.length, .ref th]] ++ [Ob.tup [.ref th, .ref S2.length]] ++ [Ob.lst [.ref S5.length, .ref (S5 ++ [Ob.tup [.ref S2.length, .ref th]]).length]] := ⟨_, rfl⟩
  have p6 : ∀ {a : Nat} {o : Ob}, S5[a]? = some o → S6[a]? = some o := fun h => by rw [hS6]; exact get_app (get_app (get_app h))
  have tl6 : TL S6 tp m (aTs m row) := by rw [hS6]; exact tl5.app.app.app
  have q6a : S6[S5.length]? = some (.tup [.ref S2.length, .ref th]) := by rw [hS6]; exact get_app (get_app get_n0)
  have q6b : S6[(S5 ++ [Ob.tup [.ref S2.length, .ref th]]).length]? = some (.tup [.ref th, .ref S2.length]) := by rw [hS6]; exact get_app get_n0
  have q6c : S6[(S5 ++ [Ob.tup [.ref S2.length, .ref th]] ++ [Ob.tup [.ref th, .ref S2.length]]).length]? = some (.lst [.ref S5.length, .ref (S5 ++ [Ob.tup [.ref S2.length, .ref th]]).length]) := by rw [hS6]; exact get_n0
  obtain ⟨lp, hlp⟩ : ∃ lp, lp = (S5 ++ [Ob.tup [.ref S2.length, .ref th]] ++ [Ob.tup [.ref th, .ref S2.length]]).length := ⟨_, rfl⟩
  rw [← hlp] at q6c
  obtain ⟨T1, y9, k1⟩ := look (y2 := some (.ref S.length)) (y3 := some (.ref (S ++ [LN ns]).length)) (y4 := some (.ref S2.length)) (y6 := some (.ref th)) (y9 := none) (y10 := none) (y11 := none) tl6 (p6 hr5) (p6 ht5) (aTs_gs1 r) (aTs_gs2 r) (around_loads r) (fun ls h => around1 r h3 h)
  obtain ⟨T2, y9', k2⟩ := look (y2 := some (.ref S.length)) (y3 := some (.ref (S ++ [LN ns]).length)) (y4 := some (.ref S2.length)) (y6 := some (.ref th)) (y9 := y9) (y10 := none) (y11 := none) (tl6.app (T := T1)) (get_app (p6 ht5)) (get_app (p6 hr5)) (aTs_gs2 r) (aTs_gs1 r) (around_loads r).symm (fun ls h => around2 r h3 h)
  have s0 : sameAt S6 (.ref lp) S6 = true := sameAt_self
  have s1 : sameAt S6 (.ref lp) (S6 ++ T1) = true := sameAt_app q6c
  have s2 : sameAt S6 (.ref lp) (S6 ++ T1 ++ T2) = true := by rw [List.append_assoc]; exact sameAt_app q6c
  have t1 : getT S6 (.ref S5.length) = some [.ref S2.length, .ref th] := getT_ref q6a
  have t2 : getT (S6 ++ T1) (.ref (S5 ++ [Ob.tup [.ref S2.length, .ref th]]).length) = some [.ref th, .ref S2.length] := getT_ref (get_app q6b)
  have eF : S6 ++ T1 ++ T2 = S ++ ([LN ns] ++ [LN os] ++ [LN row] ++ G ++ [Ob.lst vs] ++ [LN (row.drop 1)] ++ [LN (row.take 1)] ++ [LN (rot row)] ++ [Ob.tup [.ref S2.length, .ref th]] ++ [Ob.tup [.ref th, .ref S2.length]] ++ [Ob.lst [.ref S5.length, .ref (S5 ++ [Ob.tup [.ref S2.length, .ref th]]).length]] ++ T1 ++ T2) := by
    rw [hS6, hS5, hS4, hS3, hS2]; simp
  suffices hh : i__law_around_right [vN m, .int w] S = .ok (.bl true) (S6 ++ T1 ++ T2) from ⟨_, by rw [hh, eF]⟩
  have hB : (sSeq (sAsg (iCall i_rings (iCons (iVar 0) (iCons (iVar 5) (iCons (iVar 7) (iCons (iVar 8) iNil))))) (tgName 9))
  (sIf (IL.iOr (iB (iOp fNe (iCB fLen (iCons (iVar 9) iNil)) (iC (.int 1)))) (IL.iOr (iB (iOp fNe (iCB fSorted (iCons (iOp fIx (iVar 9) (iC (.int 0))) iNil)) (iListRg (iVar 0)))) (iNot (iB (iCall i__law_right (iCons (iVar 0) (iCons (iVar 5) (iCons (iVar 7) (iCons (iVar 8) iNil))))))))) (sRet (iC (.bl false))) sNext)) = arB := rfl
  simp only [i__law_around_right, mk2, List.replicate, hB]
  simp only [x_seq, x_asg, c1, R.toO_ok, x_tgName, List.set, O.seq_nx, x_cb, x_cons, x_nil, x_var, List.getElem?_cons_succ, List.getElem?_cons_zero, R.bind_ok, c2, c3, c4, x_op, x_sl, x_part, x_c, x_noPart, l4, l5, cf, ct, c5, x_for, x_itList, x_lst, x_tup, ← hS6, ← hlp, getL_ref q6c, List.map_cons, List.map_nil, forL, s0, s1, s2, if_true, x_tgTup1, t1, t2, List.length_cons, List.length_nil, x_run1, x_run0, k1, k2, x_ret, x_val_rt]
end IL

end
section
set_option linter.all false
set_option maxRecDepth 100000
set_option maxHeartbeats 1000000
namespace IL
open PySem L2 MR
def Px (S S' : Sto) : Prop := ∃ T, S' = S ++ T
theorem Px.refl (S : Sto) : Px S S := ⟨[], by simp⟩
theorem Px.app {S S' T : Sto} (h : Px S S') : Px S (S' ++ T) := by obtain ⟨U, rfl⟩ := h; exact ⟨U ++ T, by simp⟩
theorem Px.trans {S S1 S2 : Sto} (a : Px S S1) (b : Px S1 S2) : Px S S2 := by obtain ⟨U, rfl⟩ := b; exact a.app
theorem row3 : Row 3 [0, 1, 2] := ⟨rfl, by decide, by decide⟩
theorem tks3 {S : Sto} {a b c d : Nat} (h1 : S[a]? = some (.tup [.int 0, .int 1])) (h2 : S[b]? = some (.tup [.int 1, .int 2])) (h3 : S[c]? = some (.tup [.int 0, .int 2])) (h4 : S[d]? = some (.lst [.ref a, .ref b, .ref c])) : TL S d 3 (aTs 3 [0, 1, 2]) :=
  ⟨⟨_, h4, .cons ⟨a, rfl, h1⟩ (.cons ⟨b, rfl, h2⟩ (.cons ⟨c, rfl, h3⟩ .nil))⟩, aTs_gt row3 (by omega)⟩
noncomputable abbrev lwLit : IE := (iCall i_rings (iCons (iC (.int 3)) (iCons (iLst (iCons (IL.iTup (iCons (iC (.int 0)) (iCons (iC (.int 1)) iNil))) (iCons (IL.iTup (iCons (iC (.int 1)) (iCons (iC (.int 2)) iNil))) (iCons (IL.iTup (iCons (iC (.int 0)) (iCons (iC (.int 2)) iNil))) iNil)))) (iCons (iLst (iCons (iC (.int 0)) (iCons (iC (.int 1)) (iCons (iC (.int 2)) iNil)))) (iCons (iLst (iCons (iC (.int 1)) (iCons (iC (.int 2)) (iCons (iC (.int 0)) iNil)))) iNil)))))
theorem lit3 {S : Sto} {ρ : Env} : ∃ T k a l, lwLit ρ S = .ok (.ref k) (S ++ T) ∧ (S ++ T)[k]? = some (.lst [.ref a]) ∧ (S ++ T)[a]? = some (LN l) ∧ l.Perm [0, 1, 2] := by
  obtain ⟨S1, hS1⟩ : ∃ S1, S1 = S ++ [Ob.tup [.int 0, .int 1]] ++ [Ob.tup [.int 1, .int 2]] ++ [Ob.tup [.int 0, .int 2]] ++ [Ob.lst [.ref S.length, .ref (S ++ [Ob.tup [.int 0, .int 1]]).length, .ref (S ++ [Ob.tup [.int 0, .int 1]] ++ [Ob.tup [.int 1, .int 2]]).length]] ++ [Ob.lst [.int 0, .int 1, .int 2]] ++ [Ob.lst [.int 1, .int 2, .int 0]] := ⟨_, rfl⟩
  have tl : TL S1 (S ++ [Ob.tup [.int 0, .int 1]] ++ [Ob.tup [.int 1, .int 2]] ++ [Ob.tup [.int 0, .int 2]]).length 3 (aTs 3 [0, 1, 2]) := by
    refine tks3 (a := S.length) (b := (S ++ [Ob.tup [.int 0, .int 1]]).length) (c := (S ++ [Ob.tup [.int 0, .int 1]] ++ [Ob.tup [.int 1, .int 2]]).length) ?_ ?_ ?_ ?_
    · rw [hS1]; exact get_app (get_app (get_app (get_app (get_app get_n0))))
    · rw [hS1]; exact get_app (get_app (get_app (get_app get_n0)))
    · rw [hS1]; exact get_app (get_app (get_app get_n0))
    · rw [hS1]; exact get_app (get_app get_n0)
  obtain ⟨vs, hp, hv⟩ := tl.ex
  obtain ⟨T, k, fr, e1, e2, e3, e4, e5⟩ := rings_run (S := S1) (sh := [0, 1, 2]) (an := [1, 2, 0]) (q := (S ++ [Ob.tup [.int 0, .int 1]] ++ [Ob.tup [.int 1, .int 2]] ++ [Ob.tup [.int 0, .int 2]] ++ [Ob.lst [.ref S.length, .ref (S ++ [Ob.tup [.int 0, .int 1]]).length, .ref (S ++ [Ob.tup [.int 0, .int 1]] ++ [Ob.tup [.int 1, .int 2]]).length]]).length) (r := (S ++ [Ob.tup [.int 0, .int 1]] ++ [Ob.tup [.int 1, .int 2]] ++ [Ob.tup [.int 0, .int 2]] ++ [Ob.lst [.ref S.length, .ref (S ++ [Ob.tup [.int 0, .int 1]]).length, .ref (S ++ [Ob.tup [.int 0, .int 1]] ++ [Ob.tup [.int 1, .int 2]]).length]] ++ [Ob.lst [.int 0, .int 1, .int 2]]).length) hp hv tl.gt (by omega) (by omega) (by rw [aTs_length]; omega) (by rw [hS1]; exact get_app get_n0) (aTs_gs1 row3) (by rw [hS1]; exact get_n0) (aTs_gs2 row3) (around_loads row3)
  obtain ⟨l, hl1, hl2⟩ := around1 row3 (by omega) (rings_ma tl.gt (aTs_gs1 row3) (aTs_gs2 row3) (around_loads row3))
  rw [show (rot [0, 1, 2]) = [1, 2, 0] from rfl] at hl1
  rw [hl1] at e5
  have hfr : fr.length = 1 := Paired.len e5
  obtain ⟨a, rfl⟩ : ∃ a, fr = [a] := List.length_eq_one_iff.mp hfr
  obtain ⟨_, e7⟩ : k < a ∧ (S1 ++ T)[a]? = some (LN l) := by cases e5 with | cons e6 _ => exact e6
  have eS : ∃ T0, S1 = S ++ T0 := by
    have : Px S S1 := by rw [hS1]; exact (Px.refl S).app.app.app.app.app.app
    exact this
  obtain ⟨T0, hT0⟩ := eS
  refine ⟨T0 ++ T, k, a, l, ?_, ?_, ?_, hl2⟩
  · rw [← List.append_assoc, ← hT0]
    simp only [lwLit, x_call, x_cons, x_nil, x_c, x_lst, x_tup, R.bind_ok]
    rw [← hS1]
    exact e1
  · rw [← List.append_assoc, ← hT0]; exact e3
  · rw [← List.append_assoc, ← hT0]; exact e7
noncomputable abbrev lwLit2 : IE := (iCall i_rings (iCons (iC (.int 2)) (iCons (iLst (iCons (IL.iTup (iCons (iC (.int 0)) (iCons (iC (.int 1)) iNil))) (iCons (IL.iTup (iCons (iC (.int 0)) (iCons (iC (.int 1)) iNil))) iNil))) (iCons (iLst (iCons (iC (.int 0)) (iCons (iC (.int 1)) iNil))) (iCons (iLst (iCons (iC (.int 0)) (iCons (iC (.int 1)) iNil))) iNil)))))
theorem lit2 {S : Sto} {ρ : Env} : ∃ T k, lwLit2 ρ S = .ok (.ref k) (S ++ T) ∧ (S ++ T)[k]? = some (.lst []) := by
  obtain ⟨S1, hS1⟩ : ∃ S1, S1 = S ++ [Ob.tup [.int 0, .int 1]] ++ [Ob.tup [.int 0, .int 1]] ++ [Ob.lst [.ref S.length, .ref (S ++ [Ob.tup [.int 0, .int 1]]).length]] ++ [Ob.lst [.int 0, .int 1]] ++ [Ob.lst [.int 0, .int 1]] := ⟨_, rfl⟩
  have tl : TL S1 (S ++ [Ob.tup [.int 0, .int 1]] ++ [Ob.tup [.int 0, .int 1]]).length 2 [(0, 1), (0, 1)] := by
    refine ⟨⟨[.ref S.length, .ref (S ++ [Ob.tup [.int 0, .int 1]]).length], ?_, .cons ⟨_, rfl, ?_⟩ (.cons ⟨_, rfl, ?_⟩ .nil)⟩, ?_⟩
    · rw [hS1]; exact get_app (get_app get_n0)
    · rw [hS1]; exact get_app (get_app (get_app (get_app get_n0)))
    · rw [hS1]; exact get_app (get_app (get_app get_n0))
    · intro t ht; simp at ht; subst ht; exact ⟨by omega, by omega⟩
  have gs : GS [(0, 1), (0, 1)] [0, 1] := .cons (.inl rfl) (.cons (.inr rfl) .nil)
  obtain ⟨vs, hp, hv⟩ := tl.ex
  obtain ⟨T, k, fr, e1, e2, e3, e4, e5⟩ := rings_run (S := S1) (sh := [0, 1]) (an := [0, 1]) (q := (S ++ [Ob.tup [.int 0, .int 1]] ++ [Ob.tup [.int 0, .int 1]] ++ [Ob.lst [.ref S.length, .ref (S ++ [Ob.tup [.int 0, .int 1]]).length]]).length) (r := (S ++ [Ob.tup [.int 0, .int 1]] ++ [Ob.tup [.int 0, .int 1]] ++ [Ob.lst [.ref S.length, .ref (S ++ [Ob.tup [.int 0, .int 1]]).length]] ++ [Ob.lst [.int 0, .int 1]]).length) hp hv tl.gt (by omega) (by omega) (by simp) (by rw [hS1]; exact get_app get_n0) gs (by rw [hS1]; exact get_n0) gs rfl
  have ma := rings_ma tl.gt gs gs rfl
  have hnil : ringsF 2 [(0, 1), (0, 1)].length (fun t => [0, 1].getD t 0) (fun t => [0, 1].getD t 0) = [] := by
    cases hL : ringsF 2 [(0, 1), (0, 1)].length (fun t => [0, 1].getD t 0) (fun t => [0, 1].getD t 0) with
    | nil => rfl
    | cons l ls =>
      rw [hL] at ma
      have h1 := (ma.ok l List.mem_cons_self).1
      have h2 := ma.pm.length_eq
      simp at h2
      have h3 := List.length_pos_iff.mpr h1
      have h4 : ((List.range 2).filter fun t => false).length = 0 := rfl
      omega
  rw [hnil] at e5
  have hfr : fr = [] := List.length_eq_zero_iff.mp (Paired.len e5)
  subst hfr
  have eS : ∃ T0, S1 = S ++ T0 := by
    have : Px S S1 := by rw [hS1]; exact (Px.refl S).app.app.app.app.app
    exact this
  obtain ⟨T0, hT0⟩ := eS
  refine ⟨T0 ++ T, k, ?_, ?_⟩
  · rw [← List.append_assoc, ← hT0]
    simp only [lwLit2, x_call, x_cons, x_nil, x_c, x_lst, x_tup, R.bind_ok]
    rw [← hS1]
    exact e1
  · rw [← List.append_assoc, ← hT0]; exact e3
theorem fMin_N {S : Sto} {n m : Nat} : fMin [vN n, vN m] S = .ok (vN (min n m)) S := by
  show R.ok (Va.int (min (n : Int) (m : Int))) S = .ok (.int ((min n m : Nat) : Int)) S
  congr 2; omega
theorem law_true4 {ns : List Int} (hl : ns.length ≤ 63) (hb : ∀ z ∈ ns, bits z ≤ 1048576) : ∃ S', i_law [.scr ns] [] = .ok (.bl true) S' := by
  have hsum := sum_bits hb
  have hg : ∀ S, getL S (.scr ns) = some (ns.map .int) := fun S => rfl
  obtain ⟨T, k, p, n, ts, a1, a2, a3, tl, n2, n60, tlen⟩ := tasks_ok (S := []) (v := .scr ns) (hg []) hl hb
  obtain ⟨S1, hS1⟩ : ∃ S1 : Sto, S1 = [] ++ T := ⟨_, rfl⟩
  rw [← hS1] at a1 a2 tl
  have t1 := getT_ref a2
  -- around
  have c63 := cut63 ns hl
  obtain ⟨r, hr, er⟩ := emod_nat ns.sum 58 (by omega)
  rw [show ((58 : Nat) : Int) = 58 from rfl] at er
  obtain ⟨S2, hS2⟩ : ∃ S2 : Sto, S2 = S1 ++ [.lst (ns.map .int)] ++ [.lst (ns.map .int)] := ⟨_, rfl⟩
  have b1 : fSum [.ref S1.length] (S1 ++ [.lst (ns.map .int)]) = .ok (.int ns.sum) (S1 ++ [.lst (ns.map .int)]) := by
    simp only [fSum, getL_ref get_n0, Option.bind_some, asIs_I]
  have b2 : fMod (.int ns.sum) (.int 58) (S1 ++ [.lst (ns.map .int)]) = .ok (vN r) (S1 ++ [.lst (ns.map .int)]) := fMod_N (n := 58) (by omega) er
  have b3 : fAdd (.int 3) (vN r) (S1 ++ [.lst (ns.map .int)]) = .ok (vN (3 + r)) (S1 ++ [.lst (ns.map .int)]) := by
    show R.ok (Va.int (3 + (r : Int))) _ = R.ok (Va.int ((3 + r : Nat) : Int)) _
    congr 2
  have b4 : fSum [.ref (S1 ++ [Ob.lst (ns.map .int)]).length] S2 = .ok (.int ns.sum) S2 := by
    simp only [fSum, getL_ref (show S2[(S1 ++ [Ob.lst (ns.map .int)]).length]? = _ by rw [hS2]; exact get_n0), Option.bind_some, asIs_I]
  obtain ⟨T2, b5⟩ := around_ok (S := S2) (m := 3 + r) (w := ns.sum) (by omega) (by omega) (by omega)
  have tl2 : TL (S2 ++ T2) p n ts := by rw [hS2]; exact tl.app.app.app
  obtain ⟨S3, hS3⟩ : ∃ S3 : Sto, S3 = S2 ++ T2 := ⟨_, rfl⟩
  rw [← hS3] at b5 tl2
  -- sharing 0
  obtain ⟨T3, q, sh, c1, c2, c3, gs⟩ := sharing_ok (S := S3) (v := .scr ns) (by_ := 0) (hg _) hl hb tl2 tlen (by omega)
  obtain ⟨S4, hS4⟩ : ∃ S4 : Sto, S4 = S3 ++ T3 := ⟨_, rfl⟩
  rw [← hS4] at c1 c2
  have tl4 : TL S4 p n ts := by rw [hS4]; exact tl2.app
  -- turned
  have mn : ∀ S, fMin [vN n, .int 12] S = .ok (vN (min n 12)) S := fun S => fMin_N (m := 12)
  have h100 : (-100000 : Int) ≤ (min n 12 : Nat) ∧ ((min n 12 : Nat) : Int) ≤ 100000 := by omega
  obtain ⟨ρ5, S5, d1, y5, q2, T5, sh2, hρ, d2, d3, d4, d5⟩ := for_nx (chk := fun _ => true) (tg := tgName 5) (body := sAsg (iCall i__law_turned (iCons (iVar 2) (iCons (iVar 4) (iCons (iVar 5) iNil)))) (tgName 4))
    (fun _ ρ S => ∃ y5 q2 T5 sh2, ρ = [some (.scr ns), some (vN n), some (.ref p), some (.ref q), some (.ref q2), y5, none, none, none, none] ∧ S = S4 ++ T5 ∧ S[q2]? = some (LN sh2) ∧ GS ts sh2 ∧ loadsN n sh2 = loadsN n sh)
    ((List.range (min n 12)).map fun z => It1.one (vN z)) [some (.scr ns), some (vN n), some (.ref p), some (.ref q), some (.ref q), none, none, none, none, none] S4 ⟨none, q, [], sh, rfl, by simp, c2, gs, rfl⟩
    (fun j it ρ S e h => by
      obtain ⟨y5, q2, T5, sh2, rfl, rfl, h3, h4, h5⟩ := h
      obtain ⟨z, e1, rfl⟩ := map_get e
      have hz : z < min n 12 := by
        have := List.mem_of_getElem? e1
        exact List.mem_range.mp this
      obtain ⟨T6, k6, sh6, f1, f2, f3, f4, f5⟩ := turned_ok (b := z) (tl4.app (T := T5)) h3 h4 (by omega) n60 (by omega)
      refine ⟨rfl, _, _, rfl, _, _, ?_, some (vN z), k6, T5 ++ T6, sh6, rfl, by rw [← List.append_assoc], f2, f4, by rw [f5, h5]⟩
      simp only [x_asg, x_call, x_cons, x_nil, x_var, List.set, List.getElem?_cons_succ, List.getElem?_cons_zero, R.bind_ok, f1, R.toO_ok, x_tgName])
    (fun _ _ _ => rfl)
  subst hρ
  have tl5 : TL S5 p n ts := by rw [d2]; exact tl4.app
  have q5 : S5[q]? = some (LN sh) := by rw [d2]; exact get_app c2
  -- three looks
  obtain ⟨S6, hS6⟩ : ∃ S6 : Sto, S6 = S5 ++ [.tup [.ref q, .ref q2]] ++ [.tup [.ref q2, .ref q]] ++ [.tup [.ref q, .ref q]] ++ [.lst [.ref S5.length, .ref (S5 ++ [Ob.tup [.ref q, .ref q2]]).length, .ref (S5 ++ [Ob.tup [.ref q, .ref q2]] ++ [Ob.tup [.ref q2, .ref q]]).length]] := ⟨_, rfl⟩
  have p6 : ∀ {a : Nat} {o : Ob}, S5[a]? = some o → S6[a]? = some o := fun h => by rw [hS6]; exact get_app (get_app (get_app (get_app h)))
  have tl6 : TL S6 p n ts := by rw [hS6]; exact tl5.app.app.app.app
  obtain ⟨w1, hw1⟩ : ∃ w1, w1 = S5.length := ⟨_, rfl⟩
  obtain ⟨w2, hw2⟩ : ∃ w2, w2 = (S5 ++ [Ob.tup [.ref q, .ref q2]]).length := ⟨_, rfl⟩
  obtain ⟨w3, hw3⟩ : ∃ w3, w3 = (S5 ++ [Ob.tup [.ref q, .ref q2]] ++ [Ob.tup [.ref q2, .ref q]]).length := ⟨_, rfl⟩
  obtain ⟨w4, hw4⟩ : ∃ w4, w4 = (S5 ++ [Ob.tup [.ref q, .ref q2]] ++ [Ob.tup [.ref q2, .ref q]] ++ [Ob.tup [.ref q, .ref q]]).length := ⟨_, rfl⟩
  rw [← hw1, ← hw2, ← hw3] at hS6
  have u1 : S6[w1]? = some (.tup [.ref q, .ref q2]) := by rw [hS6, hw1]; exact get_app (get_app (get_app get_n0))
  have u2 : S6[w2]? = some (.tup [.ref q2, .ref q]) := by rw [hS6, hw2]; exact get_app (get_app get_n0)
  have u3 : S6[w3]? = some (.tup [.ref q, .ref q]) := by rw [hS6, hw3]; exact get_app get_n0
  have u4 : S6[w4]? = some (.lst [.ref w1, .ref w2, .ref w3]) := by rw [hS6, hw4]; exact get_n0
  obtain ⟨T7, r1⟩ := right_ok tl6 (p6 q5) (p6 d3) gs d4 d5.symm (by omega) n60 (by omega)
  obtain ⟨T8, r2⟩ := right_ok (S := S6 ++ T7) tl6.app (get_app (p6 d3)) (get_app (p6 q5)) d4 gs d5 (by omega) n60 (by omega)
  obtain ⟨T9, r3⟩ := right_ok (S := S6 ++ T7 ++ T8) tl6.app.app (get_app (get_app (p6 q5))) (get_app (get_app (p6 q5))) gs gs rfl (by omega) n60 (by omega)
  have s0 : sameAt S6 (.ref w4) S6 = true := sameAt_self
  have s1 : sameAt S6 (.ref w4) (S6 ++ T7) = true := sameAt_app u4
  have s2 : sameAt S6 (.ref w4) (S6 ++ T7 ++ T8) = true := by rw [List.append_assoc]; exact sameAt_app u4
  have s3 : sameAt S6 (.ref w4) (S6 ++ T7 ++ T8 ++ T9) = true := by rw [List.append_assoc, List.append_assoc]; exact sameAt_app u4
  have g1 := getT_ref u1
  have g2 := getT_ref (get_app (T := T7) u2)
  have g3 := getT_ref (get_app (T := T8) (get_app (T := T7) u3))
  obtain ⟨S7, hS7⟩ : ∃ S7 : Sto, S7 = S6 ++ T7 ++ T8 ++ T9 := ⟨_, rfl⟩
  rw [← hS7] at r3 s3
  have tl7 : TL S7 p n ts := by rw [hS7]; exact tl6.app.app.app
  have q7 : S7[q]? = some (LN sh) := by rw [hS7]; exact get_app (get_app (get_app (p6 q5)))
  -- sharing 1
  obtain ⟨T10, q8, sh8, e1, e2, e3, gs8⟩ := sharing_ok (S := S7) (v := .scr ns) (by_ := 1) (hg _) hl hb tl7 tlen (by omega)
  obtain ⟨S8, hS8⟩ : ∃ S8 : Sto, S8 = S7 ++ T10 := ⟨_, rfl⟩
  rw [← hS8] at e1 e2
  have tl8 : TL S8 p n ts := by rw [hS8]; exact tl7.app
  have q8' : S8[q]? = some (LN sh) := by rw [hS8]; exact get_app q7
  have l1 := law_loads_ok (S := S8) (n := n) e2 (gs8.lt tl8.gt) (by omega)
  obtain ⟨S9, hS9⟩ : ∃ S9 : Sto, S9 = S8 ++ [.lst [.int 0], LN (loadsN n sh8)] := ⟨_, rfl⟩
  rw [← hS9] at l1
  have q9 : S9[q]? = some (LN sh) := by rw [hS9]; exact get_app q8'
  have l2 := law_loads_ok (S := S9) (n := n) q9 (gs.lt tl8.gt) (by omega)
  obtain ⟨S10, hS10⟩ : ∃ S10 : Sto, S10 = S9 ++ [.lst [.int 0], LN (loadsN n sh)] := ⟨_, rfl⟩
  rw [← hS10] at l2
  have l3 : fEq (.ref (S8.length + 1)) (.ref (S9.length + 1)) S10 = .ok (.bl (decide (loadsN n sh8 = loadsN n sh))) S10 :=
    fEq_LN (by rw [hS10, hS9]; exact get_app get_n1) (by rw [hS10]; exact get_n1)
  have tl10 : TL S10 p n ts := by rw [hS10, hS9]; exact tl8.app.app
  have q10 : S10[q]? = some (LN sh) := by rw [hS10]; exact get_app q9
  have q10' : S10[q8]? = some (LN sh8) := by rw [hS10, hS9]; exact get_app (get_app e2)
  obtain ⟨S11, hif⟩ : ∃ S11, (∀ y5 y6 y7 y9, sIf (iAnd (iB (iOp fEq (iCall i__law_loads (iCons (iVar 1) (iCons (iVar 8) iNil))) (iCall i__law_loads (iCons (iVar 1) (iCons (iVar 3) iNil))))) (iNot (iB (iCall i__law_right (iCons (iVar 1) (iCons (iVar 2) (iCons (iVar 3) (iCons (iVar 8) iNil)))))))) (sRet (iC (.bl false))) sNext
      [some (.scr ns), some (vN n), some (.ref p), some (.ref q), some (.ref q2), y5, y6, y7, some (.ref q8), y9] S8 = .nx [some (.scr ns), some (vN n), some (.ref p), some (.ref q), some (.ref q2), y5, y6, y7, some (.ref q8), y9] S11) := by
    by_cases hd : loadsN n sh8 = loadsN n sh
    · obtain ⟨T11, r4⟩ := right_ok tl10 q10 q10' gs gs8 hd.symm (by omega) n60 (by omega)
      refine ⟨S10 ++ T11, fun y5 y6 y7 y9 => ?_⟩
      rw [decide_eq_true hd] at l3
      simp only [x_sif, x_and, x_B, x_op, x_call, x_cons, x_nil, x_var, List.getElem?_cons_succ, List.getElem?_cons_zero, R.bind_ok, l1, l2, l3, x_asB, if_true, x_not, r4, Bool.not_true, R.toO_ok, Bool.false_eq_true, if_false, x_next]
    · refine ⟨S10, fun y5 y6 y7 y9 => ?_⟩
      rw [decide_eq_false hd] at l3
      simp only [x_sif, x_and, x_B, x_op, x_call, x_cons, x_nil, x_var, List.getElem?_cons_succ, List.getElem?_cons_zero, R.bind_ok, l1, l2, l3, x_asB, R.toO_ok, Bool.false_eq_true, if_false, x_next]
  -- literals
  obtain ⟨T12, k12, a12, l12, m1, m2, m3, m4⟩ := lit3 (S := S11) (ρ := [some (.scr ns), some (vN n), some (.ref p), some (.ref q), some (.ref q2), y5, some (.ref q), some (.ref q), some (.ref q8), none])
  obtain ⟨S12, hS12⟩ : ∃ S12 : Sto, S12 = S11 ++ T12 := ⟨_, rfl⟩
  rw [← hS12] at m1 m2 m3
  have x1 : fLen [.ref k12] S12 = .ok (.int 1) S12 := by simp only [fLen, getQ_lst m2]; rfl
  have x2 : fEq (.int 1) (.int 1) S12 = .ok (.bl true) S12 := by rw [fEq_ii]; rfl
  have x3 : fIx (.ref k12) (.int 0) S12 = .ok (.ref a12) S12 := fIx_lst (k := 0) m2 rfl
  have x4 : srt (l12.map fun (x : Nat) => (x : Int)) = [0, 1, 2].map fun (x : Nat) => (x : Int) := srt_of (m4.symm.map _) (by decide)
  have x5 := fSorted_N m3 x4
  have x6 : fEq (.ref S12.length) (.ref (S12 ++ [LN [0, 1, 2]]).length) (S12 ++ [LN [0, 1, 2]] ++ [.lst [.int 0, .int 1, .int 2]]) = .ok (.bl true) (S12 ++ [LN [0, 1, 2]] ++ [.lst [.int 0, .int 1, .int 2]]) := by
    have := fEq_LN (S := S12 ++ [LN [0, 1, 2]] ++ [.lst [.int 0, .int 1, .int 2]]) (p := S12.length) (q := (S12 ++ [LN [0, 1, 2]]).length) (xs := [0, 1, 2]) (ys := [0, 1, 2]) (get_app get_n0) get_n0
    simpa using this
  obtain ⟨T13, k13, z1, z2⟩ := lit2 (S := S12 ++ [LN [0, 1, 2]] ++ [.lst [.int 0, .int 1, .int 2]]) (ρ := [some (.scr ns), some (vN n), some (.ref p), some (.ref q), some (.ref q2), y5, some (.ref q), some (.ref q), some (.ref q8), some (.ref k12)])
  obtain ⟨S13, hS13⟩ : ∃ S13 : Sto, S13 = S12 ++ [LN [0, 1, 2]] ++ [.lst [.int 0, .int 1, .int 2]] ++ T13 := ⟨_, rfl⟩
  rw [← hS13] at z1 z2
  have z3 : fEq (.ref k13) (.ref S13.length) (S13 ++ [.lst []]) = .ok (.bl true) (S13 ++ [.lst []]) := by
    have := fEq_LN (S := S13 ++ [.lst []]) (p := k13) (q := S13.length) (xs := []) (ys := []) (get_app z2) get_n0
    simpa using this
  refine ⟨S13 ++ [.lst []], ?_⟩
  have itR : itRng (iCB fMin (iCons (iVar 1) (iCons (iC (.int 12)) iNil))) [some (.scr ns), some (vN n), some (.ref p), some (.ref q), some (.ref q), none, none, none, none, none] S4 = .ok ⟨(List.range (min n 12)).map fun z => It1.one (vN z), fun _ => true⟩ S4 := by
    simp only [x_itRng, x_cb, x_cons, x_nil, x_c, x_var, List.getElem?_cons_succ, List.getElem?_cons_zero, R.bind_ok, mn]
    simp only [vN, h100, and_self, if_true]
    rw [rngI, List.map_map]; rfl
  have v0 : (Va.int 0) = vN 0 := rfl
  have v1 : (Va.int 1) = vN 1 := rfl
  rw [← v0] at c1
  rw [← v1] at e1
  simp only [i_law, mk1, List.replicate]
  simp only [x_seq, x_asg, x_call, x_cons, x_nil, x_var, List.getElem?_cons_succ, List.getElem?_cons_zero, R.bind_ok, a1, R.toO_ok, x_tgTup1, t1, List.length_cons, List.length_nil, if_true, x_run1, x_run0, x_tgName, List.set, O.seq_nx]
  simp only [x_sif, x_not, x_B, x_call, x_cons, x_op, x_c, x_cb, x_sl, x_var, List.getElem?_cons_succ, List.getElem?_cons_zero, R.bind_ok, x_noPart, x_part, hg, c63, x_nil, b1, b2, b3, ← hS2, b4, b5, x_asB, Bool.not_true, R.toO_ok, Bool.false_eq_true, if_false, x_next, O.seq_nx]
  simp only [x_seq, x_asg, x_call, x_cons, x_nil, x_c, x_var, List.getElem?_cons_succ, List.getElem?_cons_zero, R.bind_ok, c1, R.toO_ok, x_tgName, List.set, O.seq_nx]
  simp only [x_for, itR, R.toO_ok, d1, O.seq_nx]
  simp only [x_seq, x_for, x_itList, x_lst, x_tup, x_cons, x_nil, x_var, List.getElem?_cons_succ, List.getElem?_cons_zero, R.bind_ok, ← hw1, ← hw2, ← hw3, ← hw4, ← hS6, getL_ref u4, R.toO_ok, List.map_cons, List.map_nil, forL, s0, s1, s2, s3, if_true, x_tgTup1, g1, g2, g3, List.length_cons, List.length_nil, x_run1, x_run0, x_tgName, List.set, x_sif, x_not, x_B, x_call, r1, r2, r3, x_asB, Bool.not_true, Bool.false_eq_true, if_false, x_next, O.seq_nx]
  simp only [x_asg, x_call, x_cons, x_nil, x_c, x_var, List.getElem?_cons_succ, List.getElem?_cons_zero, R.bind_ok, e1, R.toO_ok, x_tgName, List.set, O.seq_nx]
  unfold lwLit at m1
  unfold lwLit2 at z1
  rw [x_seq, hif, O.seq_nx, x_seq, x_asg, m1]
  simp only [R.toO_ok, x_tgName, List.set, O.seq_nx]
  simp only [x_ret, x_andV, x_op, x_cb, x_cons, x_nil, x_var, x_c, List.getElem?_cons_succ, List.getElem?_cons_zero, R.bind_ok, x1, x2, x3, x5, x6, x_asB, if_true, x_lst]
  rw [z1]
  simp only [R.bind_ok, z3, R.toO_ok, x_val_rt]
end IL

end
section
set_option Elab.async false
set_option linter.all false
set_option maxRecDepth 100000
set_option maxHeartbeats 4000000
namespace IL
open PySem L2
def top (i : Nat) : Stmt := PySem.Challenge.pw_eitherdoes_k04_whole_rings.main.body.getD i (.Pass ⟨0, 0, 0, 0⟩)
structure Tx (g : Gm) (mg : Str → Option Value) : Prop where
  b : Bt mg
  g_MOST : ∃ t, mg "MOST" = some (.int 60 t)
section
variable {P : Program} {w : World} {g : Gm} {mg : Str → Option Value} {base : Heap}
abbrev s_is_number : Stmt := top 8
theorem sc_is_number : FnScope ["thing", "least"] ["thing", "least"] (defScope s_is_number) := ⟨rfl, rfl, rfl, by decide +kernel, rfl, by decide +kernel, by decide +kernel⟩
theorem ok_is_number {f : Addr} {fd : FuncData} (F : Fun g.K "is_number" "is_number" s_is_number f fd) (T : Tx g mg) : FnOk P w g.K mg base CX0 1 f fd ["thing", "least"] (iSp g i_is_number) :=
  F.ok sc_is_number (iSp_len rfl) (fun cdv AA outer s H vs Q E hr h => ⟨_, (pss_one (ps_ret (pe_and (pe_callB call_isi (by rfl) T.b.isinstance (by decide +kernel) (pa_cons (pv 0) (pa_cons (pe_bltn (v := .ty "int") (by rfl) T.b.int (by decide +kernel) rfl) pa_nil))) (pe_and (pe_not (pe_callB call_isi (by rfl) T.b.isinstance (by decide +kernel) (pa_cons (pv 0) (pa_cons (pe_bltn (v := .ty "bool") (by rfl) T.b.bool (by decide +kernel) rfl) pa_nil)))) (pe_one (pe_cmpR op_ge (pv 0) (pv 1) (nomark _))))))), body h rfl ((ss_ret (sd_andV (sd_cb sc_isi (sd_cons sd_var (sd_cons sd_ty sd_nil))) (sd_andV (sd_notV (sd_cb sc_isi (sd_cons sd_var (sd_cons sd_ty sd_nil)))) (sd_op sr_ge sd_var sd_var)))))⟩)

abbrev s_is_task : Stmt := top 9
theorem sc_is_task : FnScope ["thing", "people", "one"] ["thing", "people"] (defScope s_is_task) := ⟨rfl, rfl, rfl, by decide +kernel, rfl, by decide +kernel, by decide +kernel⟩
theorem ok_is_task {f : Addr} {fd : FuncData} (F : Fun g.K "is_task" "is_task" s_is_task f fd) (T : Tx g mg) (c_is_number : Cal P w g.K mg base CX0 1 "is_number" ["thing", "least"] (iSp g i_is_number)) : FnOk P w g.K mg base CX0 2 f fd ["thing", "people"] (iSp g i_is_task) :=
  F.ok sc_is_task (iSp_len rfl) (fun cdv AA outer s H vs Q E hr h => ⟨_, (pss_cons (ps_if (pw_or (pt_not (pt_truth (pe_callB call_isi (by rfl) T.b.isinstance (by decide +kernel) (pa_cons (pv 0) (pa_cons (pe_bltn (v := .ty "tuple") (by rfl) T.b.tuple (by decide +kernel) rfl) pa_nil))) (fun _ => rfl))) (pw_or (pt_cmpR (op_neD hr.units) (pe_callB call_LEN (by rfl) T.b.len (by decide +kernel) (pa_cons (pv 0) pa_nil)) pe_int (nomark _)) (pw_or1 (pt_not (pt_truth (pe_callB (cr_all rfl) (by rfl) T.b.all (by decide +kernel) (pa_cons (pe_lc (own := [("one", 2)]) (by rfl) sc_is_task.nd (pi_tup (pv 0)) (blkOk_by (own := [("one", 2)]) (N := ["thing", "people", "one"]) (sc := defScope s_is_task) (by decide +kernel)) (fun _ _ _ _ _ => (pg_name (i := 2) sc_is_task.nd rfl (by first | exact Or.inl rfl | exact Or.inr rfl))) (fun _ _ _ _ _ => pts_nil) (fun _ _ _ _ _ => (pe_cal c_is_number (hr.mono (by decide)) (by rfl) (pa_cons (pv 2) (pa_cons pe_int pa_nil))))) pa_nil)) (fun _ => rfl)))))).pt (pss_one (ps_ret pe_bl)) pss_nil)
    (pss_one (ps_ret (pe_chain op_lt op_lt (pe_ix ix_seq (pv 0) pe_int (fun _ _ => rfl)) (pe_ix ix_seq (pv 0) pe_int (fun _ _ => rfl)) (pv 1))))), body h rfl ((ss_seq (ss_if (sd_or (sd_not (sd_tru (sd_cb sc_isi (sd_cons sd_var (sd_cons sd_ty sd_nil))))) (sd_or (sd_test (sd_op sr_ne (sd_cb sc_len (sd_cons sd_var sd_nil)) sd_int)) (sd_not (sd_tru (sd_cb sc_all (sd_cons (sd_lc (si_tup sd_var) sg_name (wp_name (by simp)) sd_yes (sd_call (sd_cons sd_var (sd_cons sd_int sd_nil)))) sd_nil)))))) (ss_ret sd_bl) ss_next)
    (ss_ret (sd_chain sr_lt sr_lt (sd_op sr_ix sd_var sd_int) (sd_op sr_ix sd_var sd_int) sd_var))))⟩)

abbrev s_check_tasks : Stmt := top 10
theorem sc_check_tasks : FnScope ["people", "tasks", "task"] ["people", "tasks"] (defScope s_check_tasks) := ⟨rfl, rfl, rfl, by decide +kernel, rfl, by decide +kernel, by decide +kernel⟩
theorem ok_check_tasks {f : Addr} {fd : FuncData} (F : Fun g.K "check_tasks" "check_tasks" s_check_tasks f fd) (T : Tx g mg) (c_is_number : Cal P w g.K mg base CX0 1 "is_number" ["thing", "least"] (iSp g i_is_number)) (c_is_task : Cal P w g.K mg base CX0 2 "is_task" ["thing", "people"] (iSp g i_is_task)) : FnOk P w g.K mg base CX0 3 f fd ["people", "tasks"] (iSp g i_check_tasks) :=
  F.ok sc_check_tasks (iSp_len rfl) (fun cdv AA outer s H vs Q E hr h => ⟨_, (pss_cons (ps_if (pw_or (pt_not (pt_truth (pe_cal c_is_number (hr.mono (by decide)) (by rfl) (pa_cons (pv 0) (pa_cons pe_int pa_nil))) (fun _ => rfl))) (pw_or1 (pt_cmpR op_gt (pv 0) (pe_glob (v := .int 60) (by rfl) T.g_MOST.choose_spec ⟨_, rfl⟩) (nomark _)))).pt (pss_one ps_dead) pss_nil)
    (pss_one (ps_if (pw_or (pt_not (pt_truth (pe_callB call_isi (by rfl) T.b.isinstance (by decide +kernel) (pa_cons (pv 1) (pa_cons (pe_bltn (v := .ty "list") (by rfl) T.b.list (by decide +kernel) rfl) pa_nil))) (fun _ => rfl))) (pw_or1 (pt_not (pt_truth (pe_callB (cr_all rfl) (by rfl) T.b.all (by decide +kernel) (pa_cons (pe_lc (own := [("task", 2)]) (by rfl) sc_check_tasks.nd (pi_list (pv 1)) (blkOk_by (own := [("task", 2)]) (N := ["people", "tasks", "task"]) (sc := defScope s_check_tasks) (by decide +kernel)) (fun _ _ _ _ _ => (pg_name (i := 2) sc_check_tasks.nd rfl (by first | exact Or.inl rfl | exact Or.inr rfl))) (fun _ _ _ _ _ => pts_nil) (fun _ _ _ _ _ => (pe_cal c_is_task (hr.mono (by decide)) (by rfl) (pa_cons (pv 2) (pa_cons (pv 0) pa_nil))))) pa_nil)) (fun _ => rfl))))).pt (pss_one ps_dead) pss_nil))), body h rfl ((ss_seq (ss_if (sd_or (sd_not (sd_tru (sd_call (sd_cons sd_var (sd_cons sd_int sd_nil))))) (sd_test (sd_op sr_gt sd_var sd_int))) ss_dead ss_next)
    (ss_if (sd_or (sd_not (sd_tru (sd_cb sc_isi (sd_cons sd_var (sd_cons sd_ty sd_nil))))) (sd_not (sd_tru (sd_cb sc_all (sd_cons (sd_lc (si_list sd_var) sg_name (wp_name (by simp)) sd_yes (sd_call (sd_cons sd_var (sd_cons sd_var sd_nil)))) sd_nil))))) ss_dead ss_next)))⟩)

abbrev s_is_sharing : Stmt := top 11
theorem sc_is_sharing : FnScope ["tasks", "sharing", "one", "task", "who"] ["tasks", "sharing"] (defScope s_is_sharing) := ⟨rfl, rfl, rfl, by decide +kernel, rfl, by decide +kernel, by decide +kernel⟩
theorem ok_is_sharing {f : Addr} {fd : FuncData} (F : Fun g.K "is_sharing" "is_sharing" s_is_sharing f fd) (T : Tx g mg) (c_is_number : Cal P w g.K mg base CX0 1 "is_number" ["thing", "least"] (iSp g i_is_number)) : FnOk P w g.K mg base CX0 2 f fd ["tasks", "sharing"] (iSp g i_is_sharing) :=
  F.ok sc_is_sharing (iSp_len rfl) (fun cdv AA outer s H vs Q E hr h => ⟨_, (pss_cons (ps_if (pw_or (pt_not (pt_truth (pe_callB call_isi (by rfl) T.b.isinstance (by decide +kernel) (pa_cons (pv 1) (pa_cons (pe_bltn (v := .ty "list") (by rfl) T.b.list (by decide +kernel) rfl) pa_nil))) (fun _ => rfl))) (pw_or (pt_cmpR (op_neD hr.units) (pe_callB call_LEN (by rfl) T.b.len (by decide +kernel) (pa_cons (pv 1) pa_nil)) (pe_callB call_LEN (by rfl) T.b.len (by decide +kernel) (pa_cons (pv 0) pa_nil)) (nomark _)) (pw_or1 (pt_not (pt_truth (pe_callB (cr_all rfl) (by rfl) T.b.all (by decide +kernel) (pa_cons (pe_lc (own := [("one", 2)]) (by rfl) sc_is_sharing.nd (pi_list (pv 1)) (blkOk_by (own := [("one", 2)]) (N := ["tasks", "sharing", "one", "task", "who"]) (sc := defScope s_is_sharing) (by decide +kernel)) (fun _ _ _ _ _ => (pg_name (i := 2) sc_is_sharing.nd rfl (by first | exact Or.inl rfl | exact Or.inr rfl))) (fun _ _ _ _ _ => pts_nil) (fun _ _ _ _ _ => (pe_cal c_is_number (hr.mono (by decide)) (by rfl) (pa_cons (pv 2) (pa_cons pe_int pa_nil))))) pa_nil)) (fun _ => rfl)))))).pt (pss_one (ps_ret pe_bl)) pss_nil)
    (pss_one (ps_ret (pe_callB (cr_all rfl) (by rfl) T.b.all (by decide +kernel) (pa_cons (pe_lc (own := [("task", 3), ("who", 4)]) (by rfl) sc_is_sharing.nd (pi_zip (by rfl) T.b.zip (pa_cons (pv 0) (pa_cons (pv 1) pa_nil))) (blkOk_by (own := [("task", 3), ("who", 4)]) (N := ["tasks", "sharing", "one", "task", "who"]) (sc := defScope s_is_sharing) (by decide +kernel)) (fun _ _ _ _ _ => (pg_tup rfl (pgs_cons (pg_name (i := 3) sc_is_sharing.nd rfl (by first | exact Or.inl rfl | exact Or.inr rfl)) (pgs_cons (pg_name (i := 4) sc_is_sharing.nd rfl (by first | exact Or.inl rfl | exact Or.inr rfl)) pgs_nil)))) (fun _ _ _ _ _ => pts_nil) (fun _ _ _ _ _ => (pe_cmpR op_in_seq (pv 4) (pv 3) rfl))) pa_nil))))), body h rfl ((ss_seq (ss_if (sd_or (sd_not (sd_tru (sd_cb sc_isi (sd_cons sd_var (sd_cons sd_ty sd_nil))))) (sd_or (sd_test (sd_op sr_ne (sd_cb sc_len (sd_cons sd_var sd_nil)) (sd_cb sc_len (sd_cons sd_var sd_nil)))) (sd_not (sd_tru (sd_cb sc_all (sd_cons (sd_lc (si_list sd_var) sg_name (wp_name (by simp)) sd_yes (sd_call (sd_cons sd_var (sd_cons sd_int sd_nil)))) sd_nil)))))) (ss_ret sd_bl) ss_next)
    (ss_ret (sd_cb sc_all (sd_cons (sd_lc (si_zip sd_var sd_var) (sg_tup (sgs_cons sg_name (sgs_cons sg_name sgs_nil))) (wp_tup (wps_cons (by simp) (wps_cons (by simp) wps_nil))) sd_yes (sd_op sr_in sd_var sd_var)) sd_nil)))))⟩)

abbrev s_check_sharing : Stmt := top 12
theorem sc_check_sharing : FnScope ["tasks", "sharing"] ["tasks", "sharing"] (defScope s_check_sharing) := ⟨rfl, rfl, rfl, by decide +kernel, rfl, by decide +kernel, by decide +kernel⟩
theorem ok_check_sharing {f : Addr} {fd : FuncData} (F : Fun g.K "check_sharing" "check_sharing" s_check_sharing f fd) (T : Tx g mg) (c_is_sharing : Cal P w g.K mg base CX0 2 "is_sharing" ["tasks", "sharing"] (iSp g i_is_sharing)) : FnOk P w g.K mg base CX0 3 f fd ["tasks", "sharing"] (iSp g i_check_sharing) :=
  F.ok sc_check_sharing (iSp_len rfl) (fun cdv AA outer s H vs Q E hr h => ⟨_, (pss_one (ps_if (pt_not (pt_truth (pe_cal c_is_sharing (hr.mono (by decide)) (by rfl) (pa_cons (pv 0) (pa_cons (pv 1) pa_nil))) (fun _ => rfl))) (pss_one ps_dead) pss_nil)), body h rfl ((ss_if (sd_not (sd_tru (sd_call (sd_cons sd_var (sd_cons sd_var sd_nil))))) ss_dead ss_next))⟩)

abbrev s_loads_of : Stmt := top 13
theorem sc_loads_of : FnScope ["people", "sharing", "found", "who"] ["people", "sharing"] (defScope s_loads_of) := ⟨rfl, rfl, rfl, by decide +kernel, rfl, by decide +kernel, by decide +kernel⟩
theorem ok_loads_of {f : Addr} {fd : FuncData} (F : Fun g.K "loads_of" "loads_of" s_loads_of f fd) (T : Tx g mg) : FnOk P w g.K mg base CX0 1 f fd ["people", "sharing"] (iSp g i_loads_of) :=
  F.ok sc_loads_of (iSp_len rfl) (fun cdv AA outer s H vs Q E hr h => ⟨_, (pss_cons (ps_set (i := 2) sc_loads_of.nd rfl (by first | exact Or.inl rfl | exact Or.inr rfl) (pe_op op_MUL (pe_lst (pa_cons pe_int pa_nil)) (pv 0)))
    (pss_cons (ps_for PassesOwn.never (by rfl) (pi_list (pv 1)) (pg_name (i := 3) sc_loads_of.nd rfl (by first | exact Or.inl rfl | exact Or.inr rfl)) (pss_one (ps_augS (pv 2) (pv 3) get_LIST pe_int ip_add set_list)))
    (pss_one (ps_ret (pv 2))))), body h rfl ((ss_seq (ss_asg (sd_op sr_mul (sd_lst 1 (len_cons len_nil) (by decide) (sd_cons sd_int sd_nil)) sd_var) sg_name)
    (ss_seq (ss_for (si_list sd_var) sg_name (ss_augS sd_var sd_var sd_int))
    (ss_ret sd_var))))⟩)

abbrev s_rings_from : Stmt := top 16
theorem sc_rings_from : FnScope ["person", "giving", "another", "found", "way", "here", "met", "at", "first"] ["person", "giving", "another"] (defScope s_rings_from) := ⟨rfl, rfl, rfl, by decide +kernel, rfl, by decide +kernel, by decide +kernel⟩
theorem ok_rings_from {f : Addr} {fd : FuncData} (F : Fun g.K "rings_from" "rings_from" s_rings_from f fd) (T : Tx g mg) : FnOk P w g.K mg base CX0 1 f fd ["person", "giving", "another"] (iSp g i_rings_from) :=
  F.ok sc_rings_from (iSp_len rfl) (fun cdv AA outer s H vs Q E hr h => ⟨_, (pss_cons (ps_set (i := 3) sc_rings_from.nd rfl (by first | exact Or.inl rfl | exact Or.inr rfl) (pe_lst pa_nil))
    (pss_cons (ps_set (i := 4) sc_rings_from.nd rfl (by first | exact Or.inl rfl | exact Or.inr rfl) (pe_lst pa_nil))
    (pss_cons (ps_set (i := 5) sc_rings_from.nd rfl (by first | exact Or.inl rfl | exact Or.inr rfl) (pv 0))
    (pss_cons (ps_set (i := 6) sc_rings_from.nd rfl (by first | exact Or.inl rfl | exact Or.inr rfl) (pe_lst (pa_cons (pv 0) pa_nil)))
    (pss_cons (ps_while PassesOwn.never (pw_or (pt_cmpR (op_neD hr.units) (pe_ix ix_seq (pv 1) (pv 5) (fun _ _ => rfl)) (pe_lst pa_nil) (nomark _)) (pw_or1 (pt_cmpR (op_neD hr.units) (pv 4) (pe_lst pa_nil) (nomark _)))).pt (pss_cons (ps_set (i := 7) sc_rings_from.nd rfl (by first | exact Or.inl rfl | exact Or.inr rfl) (pe_bm0 PySem.F.plainAttrs_list PySem.F.slot_list_pop PySem.F.type_list_pop mt_pop (pe_ix ix_seq (pv 1) (pv 5) (fun _ _ => rfl))))
    (pss_cons (ps_expr (pe_bm PySem.F.plainAttrs_list PySem.F.slot_list_append PySem.F.type_list_append mt_append (pv 4) (pa_cons (pv 7) pa_nil)))
    (pss_cons (ps_set (i := 5) sc_rings_from.nd rfl (by first | exact Or.inl rfl | exact Or.inr rfl) (pe_ix ix_seq (pv 2) (pv 7) (fun _ _ => rfl)))
    (pss_one (ps_if (pt_cmpR op_in_seq (pv 5) (pv 6) rfl) (pss_cons (ps_set (i := 8) sc_rings_from.nd rfl (by first | exact Or.inl rfl | exact Or.inr rfl) (pe_bm PySem.F.plainAttrs_list PySem.F.slot_list_index PySem.F.type_list_index mt_index (pv 6) (pa_cons (pv 5) pa_nil)))
    (pss_cons (ps_expr (pe_bm PySem.F.plainAttrs_list PySem.F.slot_list_append PySem.F.type_list_append mt_append (pv 3) (pa_cons (pe_slice sl_list (pv 4) (po_some (pv 8)) po_none) pa_nil)))
    (pss_cons (ps_set (i := 4) sc_rings_from.nd rfl (by first | exact Or.inl rfl | exact Or.inr rfl) (pe_slice sl_list (pv 4) po_none (po_some (pv 8))))
    (pss_one (ps_set (i := 6) sc_rings_from.nd rfl (by first | exact Or.inl rfl | exact Or.inr rfl) (pe_slice sl_list (pv 6) po_none (po_some (pe_op op_ADD (pv 8) pe_int)))))))) (pss_one (ps_expr (pe_bm PySem.F.plainAttrs_list PySem.F.slot_list_append PySem.F.type_list_append mt_append (pv 6) (pa_cons (pv 5) pa_nil))))))))))
    (pss_one (ps_ret (pv 3)))))))), body h rfl ((ss_seq (ss_asg (sd_lst 0 len_nil (by decide) sd_nil) sg_name)
    (ss_seq (ss_asg (sd_lst 0 len_nil (by decide) sd_nil) sg_name)
    (ss_seq (ss_asg sd_var sg_name)
    (ss_seq (ss_asg (sd_lst 1 (len_cons len_nil) (by decide) (sd_cons sd_var sd_nil)) sg_name)
    (ss_seq (ss_while (sd_or (sd_test (sd_op sr_ne (sd_op sr_ix sd_var sd_var) (sd_lst 0 len_nil (by decide) sd_nil))) (sd_test (sd_op sr_ne sd_var (sd_lst 0 len_nil (by decide) sd_nil)))) (ss_seq (ss_asg (sd_bm0 sm_pop (sd_op sr_ix sd_var sd_var)) sg_name)
    (ss_seq (ss_expr (sd_bm sm_append sd_var (sd_cons sd_var sd_nil)))
    (ss_seq (ss_asg (sd_op sr_ix sd_var sd_var) sg_name)
    (ss_if (sd_test (sd_op sr_in sd_var sd_var)) (ss_seq (ss_asg (sd_bm sm_index sd_var (sd_cons sd_var sd_nil)) sg_name)
    (ss_seq (ss_expr (sd_bm sm_append sd_var (sd_cons (sd_sl sd_var (so_some sd_var) so_none) sd_nil)))
    (ss_seq (ss_asg (sd_sl sd_var so_none (so_some sd_var)) sg_name)
    (ss_asg (sd_sl sd_var so_none (so_some (sd_op sr_add sd_var sd_int))) sg_name)))) (ss_expr (sd_bm sm_append sd_var (sd_cons sd_var sd_nil))))))))
    (ss_ret sd_var)))))))⟩)

abbrev s_rings : Stmt := top 15
theorem sc_rings : FnScope ["people", "tasks", "sharing", "another", "giving", "at", "who", "found", "person"] ["people", "tasks", "sharing", "another"] (defScope s_rings) := ⟨rfl, rfl, rfl, by decide +kernel, rfl, by decide +kernel, by decide +kernel⟩
theorem ok_rings {f : Addr} {fd : FuncData} (F : Fun g.K "rings" "rings" s_rings f fd) (T : Tx g mg) (c_check_tasks : Cal P w g.K mg base CX0 3 "check_tasks" ["people", "tasks"] (iSp g i_check_tasks)) (c_check_sharing : Cal P w g.K mg base CX0 3 "check_sharing" ["tasks", "sharing"] (iSp g i_check_sharing)) (c_loads_of : Cal P w g.K mg base CX0 1 "loads_of" ["people", "sharing"] (iSp g i_loads_of)) (c_rings_from : Cal P w g.K mg base CX0 1 "rings_from" ["person", "giving", "another"] (iSp g i_rings_from)) : FnOk P w g.K mg base CX0 4 f fd ["people", "tasks", "sharing", "another"] (iSp g i_rings) :=
  F.ok sc_rings (iSp_len rfl) (fun cdv AA outer s H vs Q E hr h => ⟨_, (pss_cons (ps_expr (pe_cal c_check_tasks (hr.mono (by decide)) (by rfl) (pa_cons (pv 0) (pa_cons (pv 1) pa_nil))))
    (pss_cons (ps_expr (pe_cal c_check_sharing (hr.mono (by decide)) (by rfl) (pa_cons (pv 1) (pa_cons (pv 2) pa_nil))))
    (pss_cons (ps_expr (pe_cal c_check_sharing (hr.mono (by decide)) (by rfl) (pa_cons (pv 1) (pa_cons (pv 3) pa_nil))))
    (pss_cons (ps_if (pt_cmpR (op_neD hr.units) (pe_cal c_loads_of (hr.mono (by decide)) (by rfl) (pa_cons (pv 0) (pa_cons (pv 2) pa_nil))) (pe_cal c_loads_of (hr.mono (by decide)) (by rfl) (pa_cons (pv 0) (pa_cons (pv 3) pa_nil))) (nomark _)) (pss_one ps_dead) pss_nil)
    (pss_cons (ps_setLc (i := 4) (own := [("person", 8)]) (by rfl) sc_rings.nd rfl rfl (sw_true rfl rfl rfl (by decide +kernel)) (pi_range1 (by rfl) T.b.range (pa_cons (pv 0) pa_nil)) (blkOk_by (own := [("person", 8)]) (N := ["people", "tasks", "sharing", "another", "giving", "at", "who", "found", "person"]) (sc := defScope s_rings) (by decide +kernel)) (fun _ _ _ _ _ => (pg_name (i := 8) sc_rings.nd rfl (by first | exact Or.inl rfl | exact Or.inr rfl))) (fun _ _ _ _ _ => pts_nil) (fun _ _ _ _ _ => (pe_lst pa_nil)))
    (pss_cons (ps_for PassesOwn.never (by rfl) (pi_enum (by rfl) T.b.enumerate (pa_cons (pv 2) pa_nil)) (pg_tup rfl (pgs_cons (pg_name (i := 5) sc_rings.nd rfl (by first | exact Or.inl rfl | exact Or.inr rfl)) (pgs_cons (pg_name (i := 6) sc_rings.nd rfl (by first | exact Or.inl rfl | exact Or.inr rfl)) pgs_nil))) (pss_one (ps_if (pt_cmpR (op_neD hr.units) (pe_ix ix_seq (pv 3) (pv 5) (fun _ _ => rfl)) (pv 6) (nomark _)) (pss_one (ps_expr (pe_bm PySem.F.plainAttrs_list PySem.F.slot_list_append PySem.F.type_list_append mt_append (pe_ix ix_seq (pv 4) (pv 6) (fun _ _ => rfl)) (pa_cons (pv 5) pa_nil)))) pss_nil)))
    (pss_cons (ps_set (i := 7) sc_rings.nd rfl (by first | exact Or.inl rfl | exact Or.inr rfl) (pe_lst pa_nil))
    (pss_cons (ps_for PassesOwn.never (by rfl) (pi_range1 (by rfl) T.b.range (pa_cons (pv 0) pa_nil)) (pg_name (i := 8) sc_rings.nd rfl (by first | exact Or.inl rfl | exact Or.inr rfl)) (pss_one (ps_while PassesOwn.never (pt_cmpR (op_neD hr.units) (pe_ix ix_seq (pv 4) (pv 8) (fun _ _ => rfl)) (pe_lst pa_nil) (nomark _)) (pss_one (ps_expr (pe_bm PySem.F.plainAttrs_list PySem.F.slot_list_extend PySem.F.type_list_extend mt_extend (pv 7) (pa_cons (pe_cal c_rings_from (hr.mono (by decide)) (by rfl) (pa_cons (pv 8) (pa_cons (pv 4) (pa_cons (pv 3) pa_nil)))) pa_nil)))))))
    (pss_one (ps_ret (pv 7))))))))))), body h rfl ((ss_seq (ss_expr (sd_call (sd_cons sd_var (sd_cons sd_var sd_nil))))
    (ss_seq (ss_expr (sd_call (sd_cons sd_var (sd_cons sd_var sd_nil))))
    (ss_seq (ss_expr (sd_call (sd_cons sd_var (sd_cons sd_var sd_nil))))
    (ss_seq (ss_if (sd_test (sd_op sr_ne (sd_call (sd_cons sd_var (sd_cons sd_var sd_nil))) (sd_call (sd_cons sd_var (sd_cons sd_var sd_nil))))) ss_dead ss_next)
    (ss_seq (ss_asg (sd_lc (si_rng sd_var) sg_name (wp_name (by simp)) sd_yes (sd_lst 0 len_nil (by decide) sd_nil)) sg_name)
    (ss_seq (ss_for (si_enum sd_var) (sg_tup (sgs_cons sg_name (sgs_cons sg_name sgs_nil))) (ss_if (sd_test (sd_op sr_ne (sd_op sr_ix sd_var sd_var) sd_var)) (ss_expr (sd_bm sm_append (sd_op sr_ix sd_var sd_var) (sd_cons sd_var sd_nil))) ss_next))
    (ss_seq (ss_asg (sd_lst 0 len_nil (by decide) sd_nil) sg_name)
    (ss_seq (ss_for (si_rng sd_var) sg_name (ss_while (sd_test (sd_op sr_ne (sd_op sr_ix sd_var sd_var) (sd_lst 0 len_nil (by decide) sd_nil))) (ss_expr (sd_bm sm_extend sd_var (sd_cons (sd_call (sd_cons sd_var (sd_cons sd_var (sd_cons sd_var sd_nil)))) sd_nil)))))
    (ss_ret sd_var))))))))))⟩)

abbrev s__law_number : Stmt := top 18
theorem sc__law_number : FnScope ["_law_cell", "_law_at", "_law_whole", "_law_mixed", "_law_more"] ["_law_cell", "_law_at", "_law_whole"] (defScope s__law_number) := ⟨rfl, rfl, rfl, by decide +kernel, rfl, by decide +kernel, by decide +kernel⟩
theorem ok__law_number {f : Addr} {fd : FuncData} (F : Fun g.K "_law_number" "_law_number" s__law_number f fd) (T : Tx g mg) : FnOk P w g.K mg base CX0 1 f fd ["_law_cell", "_law_at", "_law_whole"] (iSp g i__law_number) :=
  F.ok sc__law_number (iSp_len rfl) (fun cdv AA outer s H vs Q E hr h => ⟨_, (pss_cons (ps_if (pt_cmpR op_ge (pv 0) (pe_op op_pow pe_int pe_int) (nomark _)) (pss_one (ps_ret (pv 0))) pss_nil)
    (pss_cons (ps_set (i := 3) sc__law_number.nd rfl (by first | exact Or.inl rfl | exact Or.inr rfl) (pe_op op_mod (pe_op op_ADD (pe_op op_MUL (pe_op op_ADD (pv 0) (pe_op op_MUL pe_int (pv 1))) pe_int) (pv 2)) pe_int))
    (pss_cons (ps_set (i := 4) sc__law_number.nd rfl (by first | exact Or.inl rfl | exact Or.inr rfl) (pe_op op_MUL (pe_op op_MUL (pv 3) (pe_op op_ADD (pe_op op_ADD (pv 3) (pe_op op_MUL pe_int (pv 1))) pe_int)) (pe_op op_ADD (pe_op op_ADD (pv 3) (pv 0)) pe_int)))
    (pss_one (ps_ret (pe_op op_fdiv (pe_op op_MUL (pv 4) (pe_op op_ADD (pv 4) pe_int)) pe_int)))))), body h rfl ((ss_seq (ss_if (sd_test (sd_op sr_ge sd_var (sd_op sr_pow sd_int sd_int))) (ss_ret sd_var) ss_next)
    (ss_seq (ss_asg (sd_op sr_mod (sd_op sr_add (sd_op sr_mul (sd_op sr_add sd_var (sd_op sr_mul sd_int sd_var)) sd_int) sd_var) sd_int) sg_name)
    (ss_seq (ss_asg (sd_op sr_mul (sd_op sr_mul sd_var (sd_op sr_add (sd_op sr_add sd_var (sd_op sr_mul sd_int sd_var)) sd_int)) (sd_op sr_add (sd_op sr_add sd_var sd_var) sd_int)) sg_name)
    (ss_ret (sd_op sr_div (sd_op sr_mul sd_var (sd_op sr_add sd_var sd_int)) sd_int))))))⟩)

abbrev s__law_tasks : Stmt := top 19
theorem sc__law_tasks : FnScope ["_law_script", "_law_cells", "_law_whole", "_law_people", "_law_found", "_law_at", "_law_cell", "_law_number_here", "_law_one", "_law_other"] ["_law_script"] (defScope s__law_tasks) := ⟨rfl, rfl, rfl, by decide +kernel, rfl, by decide +kernel, by decide +kernel⟩
theorem ok__law_tasks {f : Addr} {fd : FuncData} (F : Fun g.K "_law_tasks" "_law_tasks" s__law_tasks f fd) (T : Tx g mg) (c__law_number : Cal P w g.K mg base CX0 1 "_law_number" ["_law_cell", "_law_at", "_law_whole"] (iSp g i__law_number)) : FnOk P w g.K mg base CX0 2 f fd ["_law_script"] (iSp g i__law_tasks) :=
  F.ok sc__law_tasks (iSp_len rfl) (fun cdv AA outer s H vs Q E hr h => ⟨_, (pss_cons (ps_set (i := 1) sc__law_tasks.nd rfl (by first | exact Or.inl rfl | exact Or.inr rfl) (pe_slice sl_list (pv 0) po_none (po_some pe_int)))
    (pss_cons (ps_set (i := 2) sc__law_tasks.nd rfl (by first | exact Or.inl rfl | exact Or.inr rfl) (pe_callB (cr_sum rfl) (by rfl) T.b.sum (by decide +kernel) (pa_cons (pv 1) pa_nil)))
    (pss_cons (ps_set (i := 3) sc__law_tasks.nd rfl (by first | exact Or.inl rfl | exact Or.inr rfl) (pe_ix ix_seq (pe_tup (pa_cons pe_int (pa_cons pe_int (pa_cons pe_int (pa_cons pe_int (pa_cons pe_int (pa_cons pe_int (pa_cons pe_int (pa_cons (pe_callB (call_MAX rfl) (by rfl) T.b.max (by decide +kernel) (pa_cons pe_int (pa_cons (pe_op op_fdiv (pe_op op_MUL (pe_callB call_LEN (by rfl) T.b.len (by decide +kernel) (pa_cons (pv 1) pa_nil)) pe_int) pe_int) pa_nil))) pa_nil))))))))) (pe_op op_mod (pe_op op_fdiv (pv 2) pe_int) pe_int) (fun _ _ => rfl)))
    (pss_cons (ps_set (i := 4) sc__law_tasks.nd rfl (by first | exact Or.inl rfl | exact Or.inr rfl) (pe_lst pa_nil))
    (pss_cons (ps_for PassesOwn.never (by rfl) (pi_enum (by rfl) T.b.enumerate (pa_cons (pv 1) pa_nil)) (pg_tup rfl (pgs_cons (pg_name (i := 5) sc__law_tasks.nd rfl (by first | exact Or.inl rfl | exact Or.inr rfl)) (pgs_cons (pg_name (i := 6) sc__law_tasks.nd rfl (by first | exact Or.inl rfl | exact Or.inr rfl)) pgs_nil))) (pss_cons (ps_set (i := 7) sc__law_tasks.nd rfl (by first | exact Or.inl rfl | exact Or.inr rfl) (pe_cal c__law_number (hr.mono (by decide)) (by rfl) (pa_cons (pv 6) (pa_cons (pv 5) (pa_cons (pv 2) pa_nil)))))
    (pss_cons (ps_set (i := 8) sc__law_tasks.nd rfl (by first | exact Or.inl rfl | exact Or.inr rfl) (pe_op op_mod (pv 7) (pv 3)))
    (pss_cons (ps_if (pt_cmpR (op_eqD hr.units) (pe_op op_mod (pe_op op_fdiv (pv 2) pe_int) pe_int) pe_int (nomark _)) (pss_one (ps_set (i := 8) sc__law_tasks.nd rfl (by first | exact Or.inl rfl | exact Or.inr rfl) (pe_op op_mod (pe_op op_mod (pv 7) pe_int) (pv 3)))) pss_nil)
    (pss_cons (ps_set (i := 9) sc__law_tasks.nd rfl (by first | exact Or.inl rfl | exact Or.inr rfl) (pe_op op_mod (pe_op op_ADD (pe_op op_ADD (pv 8) pe_int) (pe_op op_mod (pe_op op_fdiv (pv 7) (pv 3)) (pe_op op_sub (pv 3) pe_int))) (pv 3)))
    (pss_cons (ps_if (pt_cmpR (op_eqD hr.units) (pe_op op_mod (pe_op op_fdiv (pv 2) pe_int) pe_int) pe_int (nomark _)) (pss_one (ps_set (i := 9) sc__law_tasks.nd rfl (by first | exact Or.inl rfl | exact Or.inr rfl) (pe_op op_mod (pe_op op_ADD (pv 8) pe_int) (pv 3)))) pss_nil)
    (pss_cons (ps_if (pt_cmpR (op_eqD hr.units) (pe_op op_mod (pe_op op_fdiv (pv 2) pe_int) pe_int) pe_int (nomark _)) (pss_one (ps_par (i := 8) (j := 9) (by rfl) sc__law_tasks.nd rfl rfl (by decide) rfl rfl (pa_cons (pe_op op_mod (pv 5) (pv 3)) (pa_cons (pe_op op_mod (pe_op op_ADD (pv 5) pe_int) (pv 3)) pa_nil)) rfl)) pss_nil)
    (pss_one (ps_expr (pe_bm PySem.F.plainAttrs_list PySem.F.slot_list_append PySem.F.type_list_append mt_append (pv 4) (pa_cons (pe_tup (pa_cons (pe_callB (call_MIN rfl) (by rfl) T.b.min (by decide +kernel) (pa_cons (pv 8) (pa_cons (pv 9) pa_nil))) (pa_cons (pe_callB (call_MAX rfl) (by rfl) T.b.max (by decide +kernel) (pa_cons (pv 8) (pa_cons (pv 9) pa_nil))) pa_nil))) pa_nil)))))))))))
    (pss_one (ps_ret (pe_tup (pa_cons (pv 3) (pa_cons (pv 4) pa_nil)))))))))), body h rfl ((ss_seq (ss_asg (sd_sl sd_var so_none (so_some sd_int)) sg_name)
    (ss_seq (ss_asg (sd_cb sc_sum (sd_cons sd_var sd_nil)) sg_name)
    (ss_seq (ss_asg (sd_op sr_ix (sd_tup 8 (len_cons (len_cons (len_cons (len_cons (len_cons (len_cons (len_cons (len_cons len_nil)))))))) (by decide) (sd_cons sd_int (sd_cons sd_int (sd_cons sd_int (sd_cons sd_int (sd_cons sd_int (sd_cons sd_int (sd_cons sd_int (sd_cons (sd_cb sc_max (sd_cons sd_int (sd_cons (sd_op sr_div (sd_op sr_mul (sd_cb sc_len (sd_cons sd_var sd_nil)) sd_int) sd_int) sd_nil))) sd_nil))))))))) (sd_op sr_mod (sd_op sr_div sd_var sd_int) sd_int)) sg_name)
    (ss_seq (ss_asg (sd_lst 0 len_nil (by decide) sd_nil) sg_name)
    (ss_seq (ss_for (si_enum sd_var) (sg_tup (sgs_cons sg_name (sgs_cons sg_name sgs_nil))) (ss_seq (ss_asg (sd_call (sd_cons sd_var (sd_cons sd_var (sd_cons sd_var sd_nil)))) sg_name)
    (ss_seq (ss_asg (sd_op sr_mod sd_var sd_var) sg_name)
    (ss_seq (ss_if (sd_test (sd_op sr_eq (sd_op sr_mod (sd_op sr_div sd_var sd_int) sd_int) sd_int)) (ss_asg (sd_op sr_mod (sd_op sr_mod sd_var sd_int) sd_var) sg_name) ss_next)
    (ss_seq (ss_asg (sd_op sr_mod (sd_op sr_add (sd_op sr_add sd_var sd_int) (sd_op sr_mod (sd_op sr_div sd_var sd_var) (sd_op sr_sub sd_var sd_int))) sd_var) sg_name)
    (ss_seq (ss_if (sd_test (sd_op sr_eq (sd_op sr_mod (sd_op sr_div sd_var sd_int) sd_int) sd_int)) (ss_asg (sd_op sr_mod (sd_op sr_add sd_var sd_int) sd_var) sg_name) ss_next)
    (ss_seq (ss_if (sd_test (sd_op sr_eq (sd_op sr_mod (sd_op sr_div sd_var sd_int) sd_int) sd_int)) (ss_par (sd_cons (sd_op sr_mod sd_var sd_var) (sd_cons (sd_op sr_mod (sd_op sr_add sd_var sd_int) sd_var) sd_nil))) ss_next)
    (ss_expr (sd_bm sm_append sd_var (sd_cons (sd_tup 2 (len_cons (len_cons len_nil)) (by decide) (sd_cons (sd_cb sc_min (sd_cons sd_var (sd_cons sd_var sd_nil))) (sd_cons (sd_cb sc_max (sd_cons sd_var (sd_cons sd_var sd_nil))) sd_nil))) sd_nil))))))))))
    (ss_ret (sd_tup 2 (len_cons (len_cons len_nil)) (by decide) (sd_cons sd_var (sd_cons sd_var sd_nil))))))))))⟩)

abbrev s__law_sharing : Stmt := top 20
theorem sc__law_sharing : FnScope ["_law_script", "_law_tasks_here", "_law_by", "_law_cells", "_law_whole", "_law_found", "_law_at", "_law_task", "_law_number_here"] ["_law_script", "_law_tasks_here", "_law_by"] (defScope s__law_sharing) := ⟨rfl, rfl, rfl, by decide +kernel, rfl, by decide +kernel, by decide +kernel⟩
theorem ok__law_sharing {f : Addr} {fd : FuncData} (F : Fun g.K "_law_sharing" "_law_sharing" s__law_sharing f fd) (T : Tx g mg) (c__law_number : Cal P w g.K mg base CX0 1 "_law_number" ["_law_cell", "_law_at", "_law_whole"] (iSp g i__law_number)) : FnOk P w g.K mg base CX0 2 f fd ["_law_script", "_law_tasks_here", "_law_by"] (iSp g i__law_sharing) :=
  F.ok sc__law_sharing (iSp_len rfl) (fun cdv AA outer s H vs Q E hr h => ⟨_, (pss_cons (ps_set (i := 3) sc__law_sharing.nd rfl (by first | exact Or.inl rfl | exact Or.inr rfl) (pe_slice sl_list (pv 0) po_none (po_some pe_int)))
    (pss_cons (ps_set (i := 4) sc__law_sharing.nd rfl (by first | exact Or.inl rfl | exact Or.inr rfl) (pe_callB (cr_sum rfl) (by rfl) T.b.sum (by decide +kernel) (pa_cons (pv 3) pa_nil)))
    (pss_cons (ps_set (i := 5) sc__law_sharing.nd rfl (by first | exact Or.inl rfl | exact Or.inr rfl) (pe_lst pa_nil))
    (pss_cons (ps_for PassesOwn.never (by rfl) (pi_enum (by rfl) T.b.enumerate (pa_cons (pv 1) pa_nil)) (pg_tup rfl (pgs_cons (pg_name (i := 6) sc__law_sharing.nd rfl (by first | exact Or.inl rfl | exact Or.inr rfl)) (pgs_cons (pg_name (i := 7) sc__law_sharing.nd rfl (by first | exact Or.inl rfl | exact Or.inr rfl)) pgs_nil))) (pss_cons (ps_set (i := 8) sc__law_sharing.nd rfl (by first | exact Or.inl rfl | exact Or.inr rfl) (pe_cal c__law_number (hr.mono (by decide)) (by rfl) (pa_cons (pe_ix ix_seq (pv 3) (pv 6) (fun _ _ => rfl)) (pa_cons (pe_op op_ADD (pv 6) (pe_op op_MUL pe_int (pv 2))) (pa_cons (pv 4) pa_nil)))))
    (pss_one (ps_expr (pe_bm PySem.F.plainAttrs_list PySem.F.slot_list_append PySem.F.type_list_append mt_append (pv 5) (pa_cons (pe_ix ix_seq (pv 7) (pe_op op_mod (pe_op op_fdiv (pv 8) (pe_ix ix_seq (pe_tup (pa_cons pe_int (pa_cons pe_int pa_nil))) (pv 2) (fun _ _ => rfl))) pe_int) (fun _ _ => rfl)) pa_nil))))))
    (pss_one (ps_ret (pv 5))))))), body h rfl ((ss_seq (ss_asg (sd_sl sd_var so_none (so_some sd_int)) sg_name)
    (ss_seq (ss_asg (sd_cb sc_sum (sd_cons sd_var sd_nil)) sg_name)
    (ss_seq (ss_asg (sd_lst 0 len_nil (by decide) sd_nil) sg_name)
    (ss_seq (ss_for (si_enum sd_var) (sg_tup (sgs_cons sg_name (sgs_cons sg_name sgs_nil))) (ss_seq (ss_asg (sd_call (sd_cons (sd_op sr_ix sd_var sd_var) (sd_cons (sd_op sr_add sd_var (sd_op sr_mul sd_int sd_var)) (sd_cons sd_var sd_nil)))) sg_name)
    (ss_expr (sd_bm sm_append sd_var (sd_cons (sd_op sr_ix sd_var (sd_op sr_mod (sd_op sr_div sd_var (sd_op sr_ix (sd_tup 2 (len_cons (len_cons len_nil)) (by decide) (sd_cons sd_int (sd_cons sd_int sd_nil))) sd_var)) sd_int)) sd_nil)))))
    (ss_ret sd_var))))))⟩)

abbrev s__law_loads : Stmt := top 21
theorem sc__law_loads : FnScope ["_law_people", "_law_sharing_here", "_law_found", "_law_who"] ["_law_people", "_law_sharing_here"] (defScope s__law_loads) := ⟨rfl, rfl, rfl, by decide +kernel, rfl, by decide +kernel, by decide +kernel⟩
theorem ok__law_loads {f : Addr} {fd : FuncData} (F : Fun g.K "_law_loads" "_law_loads" s__law_loads f fd) (T : Tx g mg) : FnOk P w g.K mg base CX0 1 f fd ["_law_people", "_law_sharing_here"] (iSp g i__law_loads) :=
  F.ok sc__law_loads (iSp_len rfl) (fun cdv AA outer s H vs Q E hr h => ⟨_, (pss_cons (ps_set (i := 2) sc__law_loads.nd rfl (by first | exact Or.inl rfl | exact Or.inr rfl) (pe_op op_MUL (pe_lst (pa_cons pe_int pa_nil)) (pv 0)))
    (pss_cons (ps_for PassesOwn.never (by rfl) (pi_list (pv 1)) (pg_name (i := 3) sc__law_loads.nd rfl (by first | exact Or.inl rfl | exact Or.inr rfl)) (pss_one (ps_asg (pe_op op_ADD (pe_ix ix_seq (pv 2) (pv 3) (fun _ _ => rfl)) pe_int) (pg_sub (pv 2) (pv 3) set_list))))
    (pss_one (ps_ret (pv 2))))), body h rfl ((ss_seq (ss_asg (sd_op sr_mul (sd_lst 1 (len_cons len_nil) (by decide) (sd_cons sd_int sd_nil)) sd_var) sg_name)
    (ss_seq (ss_for (si_list sd_var) sg_name (ss_asg (sd_op sr_add (sd_op sr_ix sd_var sd_var) sd_int) (sg_sub sd_var sd_var)))
    (ss_ret sd_var))))⟩)

abbrev s__law_wholes : Stmt := top 22
theorem sc__law_wholes : FnScope ["_law_found", "_law_one"] ["_law_found"] (defScope s__law_wholes) := ⟨rfl, rfl, rfl, by decide +kernel, rfl, by decide +kernel, by decide +kernel⟩
theorem ok__law_wholes {f : Addr} {fd : FuncData} (F : Fun g.K "_law_wholes" "_law_wholes" s__law_wholes f fd) (T : Tx g mg) : FnOk P w g.K mg base CX0 1 f fd ["_law_found"] (iSp g i__law_wholes) :=
  F.ok sc__law_wholes (iSp_len rfl) (fun cdv AA outer s H vs Q E hr h => ⟨_, (pss_cons (ps_if (pt_not (pt_truth (pe_callB call_isi (by rfl) T.b.isinstance (by decide +kernel) (pa_cons (pv 0) (pa_cons (pe_bltn (v := .ty "list") (by rfl) T.b.list (by decide +kernel) rfl) pa_nil))) (fun _ => rfl))) (pss_one (ps_ret pe_bl)) pss_nil)
    (pss_one (ps_ret (pe_callB (cr_all rfl) (by rfl) T.b.all (by decide +kernel) (pa_cons (pe_lc (own := [("_law_one", 1)]) (by rfl) sc__law_wholes.nd (pi_list (pv 0)) (blkOk_by (own := [("_law_one", 1)]) (N := ["_law_found", "_law_one"]) (sc := defScope s__law_wholes) (by decide +kernel)) (fun _ _ _ _ _ => (pg_name (i := 1) sc__law_wholes.nd rfl (by first | exact Or.inl rfl | exact Or.inr rfl))) (fun _ _ _ _ _ => pts_nil) (fun _ _ _ _ _ => (pe_and (pe_callB call_isi (by rfl) T.b.isinstance (by decide +kernel) (pa_cons (pv 1) (pa_cons (pe_bltn (v := .ty "int") (by rfl) T.b.int (by decide +kernel) rfl) pa_nil))) (pe_one (pe_not (pe_callB call_isi (by rfl) T.b.isinstance (by decide +kernel) (pa_cons (pv 1) (pa_cons (pe_bltn (v := .ty "bool") (by rfl) T.b.bool (by decide +kernel) rfl) pa_nil)))))))) pa_nil))))), body h rfl ((ss_seq (ss_if (sd_not (sd_tru (sd_cb sc_isi (sd_cons sd_var (sd_cons sd_ty sd_nil))))) (ss_ret sd_bl) ss_next)
    (ss_ret (sd_cb sc_all (sd_cons (sd_lc (si_list sd_var) sg_name (wp_name (by simp)) sd_yes (sd_andV (sd_cb sc_isi (sd_cons sd_var (sd_cons sd_ty sd_nil))) (sd_notV (sd_cb sc_isi (sd_cons sd_var (sd_cons sd_ty sd_nil)))))) sd_nil)))))⟩)

abbrev s__law_second : Stmt := top 23
theorem sc__law_second : FnScope ["_law_task", "_law_who"] ["_law_task", "_law_who"] (defScope s__law_second) := ⟨rfl, rfl, rfl, by decide +kernel, rfl, by decide +kernel, by decide +kernel⟩
theorem ok__law_second {f : Addr} {fd : FuncData} (F : Fun g.K "_law_second" "_law_second" s__law_second f fd) (T : Tx g mg) : FnOk P w g.K mg base CX0 1 f fd ["_law_task", "_law_who"] (iSp g i__law_second) :=
  F.ok sc__law_second (iSp_len rfl) (fun cdv AA outer s H vs Q E hr h => ⟨_, (pss_one (ps_ret (pe_op op_sub (pe_op op_ADD (pe_ix ix_seq (pv 0) pe_int (fun _ _ => rfl)) (pe_ix ix_seq (pv 0) pe_int (fun _ _ => rfl))) (pv 1)))), body h rfl ((ss_ret (sd_op sr_sub (sd_op sr_add (sd_op sr_ix sd_var sd_int) (sd_op sr_ix sd_var sd_int)) sd_var)))⟩)

abbrev s__law_turned : Stmt := top 24
theorem sc__law_turned : FnScope ["_law_tasks_here", "_law_sharing_here", "_law_begin", "_law_here", "_law_way", "_law_met", "_law_mine", "_law_found", "_law_at", "_law_who"] ["_law_tasks_here", "_law_sharing_here", "_law_begin"] (defScope s__law_turned) := ⟨rfl, rfl, rfl, by decide +kernel, rfl, by decide +kernel, by decide +kernel⟩
theorem ok__law_turned {f : Addr} {fd : FuncData} (F : Fun g.K "_law_turned" "_law_turned" s__law_turned f fd) (T : Tx g mg) (c__law_second : Cal P w g.K mg base CX0 1 "_law_second" ["_law_task", "_law_who"] (iSp g i__law_second)) : FnOk P w g.K mg base CX0 2 f fd ["_law_tasks_here", "_law_sharing_here", "_law_begin"] (iSp g i__law_turned) :=
  F.ok sc__law_turned (iSp_len rfl) (fun cdv AA outer s H vs Q E hr h => ⟨_, (pss_cons (ps_asg (pe_tup (pa_cons (pv 2) (pa_cons (pe_lst pa_nil) (pa_cons (pe_lst (pa_cons (pv 2) pa_nil)) pa_nil)))) (pg_tup rfl (pgs_cons (pg_name (i := 3) sc__law_turned.nd rfl (by first | exact Or.inl rfl | exact Or.inr rfl)) (pgs_cons (pg_name (i := 4) sc__law_turned.nd rfl (by first | exact Or.inl rfl | exact Or.inr rfl)) (pgs_cons (pg_name (i := 5) sc__law_turned.nd rfl (by first | exact Or.inl rfl | exact Or.inr rfl)) pgs_nil)))))
    (pss_one (ps_while PassesOwn.never (pt_truth pe_bl (fun _ => rfl)) (pss_cons (ps_setLc (i := 6) (own := [("_law_at", 8), ("_law_who", 9)]) (by rfl) sc__law_turned.nd rfl rfl (sw_true rfl rfl rfl (by decide +kernel)) (pi_enum (by rfl) T.b.enumerate (pa_cons (pv 1) pa_nil)) (blkOk_by (own := [("_law_at", 8), ("_law_who", 9)]) (N := ["_law_tasks_here", "_law_sharing_here", "_law_begin", "_law_here", "_law_way", "_law_met", "_law_mine", "_law_found", "_law_at", "_law_who"]) (sc := defScope s__law_turned) (by decide +kernel)) (fun _ _ _ _ _ => (pg_tup rfl (pgs_cons (pg_name (i := 8) sc__law_turned.nd rfl (by first | exact Or.inl rfl | exact Or.inr rfl)) (pgs_cons (pg_name (i := 9) sc__law_turned.nd rfl (by first | exact Or.inl rfl | exact Or.inr rfl)) pgs_nil)))) (fun _ _ _ _ _ => (pts_one (pw_and (pt_cmpR (op_eqD hr.units) (pv 9) (pv 3) (nomark _)) (pw_and1 (pt_cmpR op_notIn_seq (pv 8) (pv 4) rfl))).pt)) (fun _ _ _ _ _ => (pv 8)))
    (pss_cons (ps_if (pt_cmpR (op_eqD hr.units) (pv 6) (pe_lst pa_nil) (nomark _)) (pss_one (ps_ret (pe_callTy call_LIST (by rfl) T.b.list (by decide +kernel) (pa_cons (pv 1) pa_nil)))) pss_nil)
    (pss_cons (ps_expr (pe_bm PySem.F.plainAttrs_list PySem.F.slot_list_append PySem.F.type_list_append mt_append (pv 4) (pa_cons (pe_ix ix_seq (pv 6) (pe_op op_mod (pv 2) (pe_callB call_LEN (by rfl) T.b.len (by decide +kernel) (pa_cons (pv 6) pa_nil))) (fun _ _ => rfl)) pa_nil)))
    (pss_cons (ps_set (i := 3) sc__law_turned.nd rfl (by first | exact Or.inl rfl | exact Or.inr rfl) (pe_cal c__law_second (hr.mono (by decide)) (by rfl) (pa_cons (pe_ix ix_seq (pv 0) (pe_ix ix_seq (pv 4) (pe_un un_neg pe_int) (fun _ _ => rfl)) (fun _ _ => rfl)) (pa_cons (pv 3) pa_nil))))
    (pss_cons (ps_if (pt_cmpR op_in_seq (pv 3) (pv 5) rfl) (pss_cons (ps_set (i := 7) sc__law_turned.nd rfl (by first | exact Or.inl rfl | exact Or.inr rfl) (pe_callTy call_LIST (by rfl) T.b.list (by decide +kernel) (pa_cons (pv 1) pa_nil)))
    (pss_cons (ps_for PassesOwn.never (by rfl) (pi_list (pe_slice sl_list (pv 4) (po_some (pe_bm PySem.F.plainAttrs_list PySem.F.slot_list_index PySem.F.type_list_index mt_index (pv 5) (pa_cons (pv 3) pa_nil))) po_none)) (pg_name (i := 8) sc__law_turned.nd rfl (by first | exact Or.inl rfl | exact Or.inr rfl)) (pss_one (ps_asg (pe_cal c__law_second (hr.mono (by decide)) (by rfl) (pa_cons (pe_ix ix_seq (pv 0) (pv 8) (fun _ _ => rfl)) (pa_cons (pe_ix ix_seq (pv 7) (pv 8) (fun _ _ => rfl)) pa_nil))) (pg_sub (pv 7) (pv 8) set_list))))
    (pss_one (ps_ret (pv 7))))) pss_nil)
    (pss_one (ps_expr (pe_bm PySem.F.plainAttrs_list PySem.F.slot_list_append PySem.F.type_list_append mt_append (pv 5) (pa_cons (pv 3) pa_nil)))))))))))), body h rfl ((ss_seq (ss_asg (sd_tup 3 (len_cons (len_cons (len_cons len_nil))) (by decide) (sd_cons sd_var (sd_cons (sd_lst 0 len_nil (by decide) sd_nil) (sd_cons (sd_lst 1 (len_cons len_nil) (by decide) (sd_cons sd_var sd_nil)) sd_nil)))) (sg_tup (sgs_cons sg_name (sgs_cons sg_name (sgs_cons sg_name sgs_nil)))))
    (ss_while (sd_tru sd_bl) (ss_seq (ss_asg (sd_lc (si_enum sd_var) (sg_tup (sgs_cons sg_name (sgs_cons sg_name sgs_nil))) (wp_tup (wps_cons (by simp) (wps_cons (by simp) wps_nil))) (sd_and (sd_test (sd_op sr_eq sd_var sd_var)) (sd_test (sd_op sr_in sd_var sd_var))) sd_var) sg_name)
    (ss_seq (ss_if (sd_test (sd_op sr_eq sd_var (sd_lst 0 len_nil (by decide) sd_nil))) (ss_ret (sd_cb sc_list (sd_cons sd_var sd_nil))) ss_next)
    (ss_seq (ss_expr (sd_bm sm_append sd_var (sd_cons (sd_op sr_ix sd_var (sd_op sr_mod sd_var (sd_cb sc_len (sd_cons sd_var sd_nil)))) sd_nil)))
    (ss_seq (ss_asg (sd_call (sd_cons (sd_op sr_ix sd_var (sd_op sr_ix sd_var (sd_neg sd_int))) (sd_cons sd_var sd_nil))) sg_name)
    (ss_seq (ss_if (sd_test (sd_op sr_in sd_var sd_var)) (ss_seq (ss_asg (sd_cb sc_list (sd_cons sd_var sd_nil)) sg_name)
    (ss_seq (ss_for (si_list (sd_sl sd_var (so_some (sd_bm sm_index sd_var (sd_cons sd_var sd_nil))) so_none)) sg_name (ss_asg (sd_call (sd_cons (sd_op sr_ix sd_var sd_var) (sd_cons (sd_op sr_ix sd_var sd_var) sd_nil))) (sg_sub sd_var sd_var)))
    (ss_ret sd_var))) ss_next)
    (ss_expr (sd_bm sm_append sd_var (sd_cons sd_var sd_nil)))))))))))⟩)

abbrev s__law_right : Stmt := top 25
theorem sc__law_right : FnScope ["_law_people", "_law_tasks_here", "_law_sharing_here", "_law_another", "_law_handed", "_law_again", "_law_found", "_law_seen", "_law_ring", "_law_doers", "_law_kept", "_law_at"] ["_law_people", "_law_tasks_here", "_law_sharing_here", "_law_another"] (defScope s__law_right) := ⟨rfl, rfl, rfl, by decide +kernel, rfl, by decide +kernel, by decide +kernel⟩
theorem ok__law_right {f : Addr} {fd : FuncData} (F : Fun g.K "_law_right" "_law_right" s__law_right f fd) (T : Tx g mg) (c_rings : Cal P w g.K mg base CX0 4 "rings" ["people", "tasks", "sharing", "another"] (iSp g i_rings)) (c__law_wholes : Cal P w g.K mg base CX0 1 "_law_wholes" ["_law_found"] (iSp g i__law_wholes)) (c__law_second : Cal P w g.K mg base CX0 1 "_law_second" ["_law_task", "_law_who"] (iSp g i__law_second)) : FnOk P w g.K mg base CX0 5 f fd ["_law_people", "_law_tasks_here", "_law_sharing_here", "_law_another"] (iSp g i__law_right) :=
  F.ok sc__law_right (iSp_len rfl) (fun cdv AA outer s H vs Q E hr h => ⟨_, (pss_cons (ps_set (i := 4) sc__law_right.nd rfl (by first | exact Or.inl rfl | exact Or.inr rfl) (pe_lst (pa_cons (pe_callTy call_LIST (by rfl) T.b.list (by decide +kernel) (pa_cons (pv 1) pa_nil)) (pa_cons (pe_callTy call_LIST (by rfl) T.b.list (by decide +kernel) (pa_cons (pv 2) pa_nil)) (pa_cons (pe_callTy call_LIST (by rfl) T.b.list (by decide +kernel) (pa_cons (pv 3) pa_nil)) pa_nil)))))
    (pss_cons (ps_for PassesOwn.never (by rfl) (pi_range1 (by rfl) T.b.range (pa_cons pe_int pa_nil)) (pg_name (i := 5) sc__law_right.nd rfl (by first | exact Or.inl rfl | exact Or.inr rfl)) (pss_cons (ps_set (i := 6) sc__law_right.nd rfl (by first | exact Or.inl rfl | exact Or.inr rfl) (pe_cal c_rings (hr.mono (by decide)) (by rfl) (pa_cons (pv 0) (pa_cons (pe_ix ix_seq (pv 4) pe_int (fun _ _ => rfl)) (pa_cons (pe_ix ix_seq (pv 4) pe_int (fun _ _ => rfl)) (pa_cons (pe_ix ix_seq (pv 4) pe_int (fun _ _ => rfl)) pa_nil))))))
    (pss_cons (ps_if (pw_or (pt_not (pt_truth (pe_callB call_isi (by rfl) T.b.isinstance (by decide +kernel) (pa_cons (pv 6) (pa_cons (pe_bltn (v := .ty "list") (by rfl) T.b.list (by decide +kernel) rfl) pa_nil))) (fun _ => rfl))) (pw_or1 (pt_cmpR (op_neD hr.units) (pv 4) (pe_lst (pa_cons (pv 1) (pa_cons (pv 2) (pa_cons (pv 3) pa_nil)))) (nomark _)))).pt (pss_one (ps_ret pe_bl)) pss_nil)
    (pss_cons (ps_set (i := 7) sc__law_right.nd rfl (by first | exact Or.inl rfl | exact Or.inr rfl) (pe_lst pa_nil))
    (pss_cons (ps_for PassesOwn.never (by rfl) (pi_list (pv 6)) (pg_name (i := 8) sc__law_right.nd rfl (by first | exact Or.inl rfl | exact Or.inr rfl)) (pss_cons (ps_if (pw_or (pt_not (pt_truth (pe_cal c__law_wholes (hr.mono (by decide)) (by rfl) (pa_cons (pv 8) pa_nil)) (fun _ => rfl))) (pw_or (pt_cmpR (op_eqD hr.units) (pv 8) (pe_lst pa_nil) (nomark _)) (pw_or1 (pt_not (pt_truth (pe_callB (cr_all rfl) (by rfl) T.b.all (by decide +kernel) (pa_cons (pe_lc (own := [("_law_at", 11)]) (by rfl) sc__law_right.nd (pi_list (pv 8)) (blkOk_by (own := [("_law_at", 11)]) (N := ["_law_people", "_law_tasks_here", "_law_sharing_here", "_law_another", "_law_handed", "_law_again", "_law_found", "_law_seen", "_law_ring", "_law_doers", "_law_kept", "_law_at"]) (sc := defScope s__law_right) (by decide +kernel)) (fun _ _ _ _ _ => (pg_name (i := 11) sc__law_right.nd rfl (by first | exact Or.inl rfl | exact Or.inr rfl))) (fun _ _ _ _ _ => pts_nil) (fun _ _ _ _ _ => (pe_chain op_le op_lt pe_int (pv 11) (pe_callB call_LEN (by rfl) T.b.len (by decide +kernel) (pa_cons (pv 1) pa_nil))))) pa_nil)) (fun _ => rfl)))))).pt (pss_one (ps_ret pe_bl)) pss_nil)
    (pss_cons (ps_setLc (i := 9) (own := [("_law_at", 11)]) (by rfl) sc__law_right.nd rfl rfl (sw_true rfl rfl rfl (by decide +kernel)) (pi_list (pv 8)) (blkOk_by (own := [("_law_at", 11)]) (N := ["_law_people", "_law_tasks_here", "_law_sharing_here", "_law_another", "_law_handed", "_law_again", "_law_found", "_law_seen", "_law_ring", "_law_doers", "_law_kept", "_law_at"]) (sc := defScope s__law_right) (by decide +kernel)) (fun _ _ _ _ _ => (pg_name (i := 11) sc__law_right.nd rfl (by first | exact Or.inl rfl | exact Or.inr rfl))) (fun _ _ _ _ _ => pts_nil) (fun _ _ _ _ _ => (pe_ix ix_seq (pv 2) (pv 11) (fun _ _ => rfl))))
    (pss_cons (ps_if (pt_cmpR (op_neD hr.units) (pe_callB call_LENSET (by rfl) T.b.len (by decide +kernel) (pa_cons (pe_callTy (call_SET rfl) (by rfl) T.b.set (by decide +kernel) (pa_cons (pv 9) pa_nil)) pa_nil)) (pe_callB call_LEN (by rfl) T.b.len (by decide +kernel) (pa_cons (pv 9) pa_nil)) (nomark _)) (pss_one (ps_ret pe_bl)) pss_nil)
    (pss_cons (ps_if (pt_cmpR (op_neD hr.units) (pe_lc (own := [("_law_at", 11)]) (by rfl) sc__law_right.nd (pi_list (pv 8)) (blkOk_by (own := [("_law_at", 11)]) (N := ["_law_people", "_law_tasks_here", "_law_sharing_here", "_law_another", "_law_handed", "_law_again", "_law_found", "_law_seen", "_law_ring", "_law_doers", "_law_kept", "_law_at"]) (sc := defScope s__law_right) (by decide +kernel)) (fun _ _ _ _ _ => (pg_name (i := 11) sc__law_right.nd rfl (by first | exact Or.inl rfl | exact Or.inr rfl))) (fun _ _ _ _ _ => pts_nil) (fun _ _ _ _ _ => (pe_cal c__law_second (hr.mono (by decide)) (by rfl) (pa_cons (pe_ix ix_seq (pv 1) (pv 11) (fun _ _ => rfl)) (pa_cons (pe_ix ix_seq (pv 2) (pv 11) (fun _ _ => rfl)) pa_nil))))) (pe_op op_ADD (pe_slice sl_list (pv 9) (po_some pe_int) po_none) (pe_slice sl_list (pv 9) po_none (po_some pe_int))) (nomark _)) (pss_one (ps_ret pe_bl)) pss_nil)
    (pss_one (ps_set (i := 7) sc__law_right.nd rfl (by first | exact Or.inl rfl | exact Or.inr rfl) (pe_op op_ADD (pv 7) (pv 8)))))))))
    (pss_cons (ps_if (pt_cmpR (op_neD hr.units) (pe_callB cr_sortedI (by rfl) T.b.sorted (by decide +kernel) (pa_cons (pv 7) pa_nil)) (pe_lc (own := [("_law_at", 11)]) (by rfl) sc__law_right.nd (pi_range1 (by rfl) T.b.range (pa_cons (pe_callB call_LEN (by rfl) T.b.len (by decide +kernel) (pa_cons (pv 1) pa_nil)) pa_nil)) (blkOk_by (own := [("_law_at", 11)]) (N := ["_law_people", "_law_tasks_here", "_law_sharing_here", "_law_another", "_law_handed", "_law_again", "_law_found", "_law_seen", "_law_ring", "_law_doers", "_law_kept", "_law_at"]) (sc := defScope s__law_right) (by decide +kernel)) (fun _ _ _ _ _ => (pg_name (i := 11) sc__law_right.nd rfl (by first | exact Or.inl rfl | exact Or.inr rfl))) (fun _ _ _ _ _ => (pts_one (pt_cmpR (op_neD hr.units) (pe_ix ix_seq (pv 2) (pv 11) (fun _ _ => rfl)) (pe_ix ix_seq (pv 3) (pv 11) (fun _ _ => rfl)) (nomark _)))) (fun _ _ _ _ _ => (pv 11))) (nomark _)) (pss_one (ps_ret pe_bl)) pss_nil)
    (pss_cons (ps_setLc (i := 10) (own := [("_law_ring", 8)]) (by rfl) sc__law_right.nd rfl rfl (sw_true rfl rfl rfl (by decide +kernel)) (pi_list (pv 6)) (blkOk_by (own := [("_law_ring", 8)]) (N := ["_law_people", "_law_tasks_here", "_law_sharing_here", "_law_another", "_law_handed", "_law_again", "_law_found", "_law_seen", "_law_ring", "_law_doers", "_law_kept", "_law_at"]) (sc := defScope s__law_right) (by decide +kernel)) (fun _ _ _ _ _ => (pg_name (i := 8) sc__law_right.nd rfl (by first | exact Or.inl rfl | exact Or.inr rfl))) (fun _ _ _ _ _ => pts_nil) (fun _ _ _ _ _ => (pe_callTy call_LIST (by rfl) T.b.list (by decide +kernel) (pa_cons (pv 8) pa_nil))))
    (pss_cons (ps_for PassesOwn.never (by rfl) (pi_list (pv 6)) (pg_name (i := 8) sc__law_right.nd rfl (by first | exact Or.inl rfl | exact Or.inr rfl)) (pss_one (ps_expr (pe_bm PySem.F.plainAttrs_list PySem.F.slot_list_append PySem.F.type_list_append mt_append (pv 8) (pa_cons (pe_un un_neg pe_int) pa_nil)))))
    (pss_cons (ps_expr (pe_bm PySem.F.plainAttrs_list PySem.F.slot_list_append PySem.F.type_list_append mt_append (pv 6) (pa_cons (pe_lst pa_nil) pa_nil)))
    (pss_one (ps_if (pt_cmpR (op_neD hr.units) (pe_cal c_rings (hr.mono (by decide)) (by rfl) (pa_cons (pv 0) (pa_cons (pe_ix ix_seq (pv 4) pe_int (fun _ _ => rfl)) (pa_cons (pe_ix ix_seq (pv 4) pe_int (fun _ _ => rfl)) (pa_cons (pe_ix ix_seq (pv 4) pe_int (fun _ _ => rfl)) pa_nil))))) (pv 10) (nomark _)) (pss_one (ps_ret pe_bl)) pss_nil)))))))))))
    (pss_one (ps_ret pe_bl)))), body h rfl ((ss_seq (ss_asg (sd_lst 3 (len_cons (len_cons (len_cons len_nil))) (by decide) (sd_cons (sd_cb sc_list (sd_cons sd_var sd_nil)) (sd_cons (sd_cb sc_list (sd_cons sd_var sd_nil)) (sd_cons (sd_cb sc_list (sd_cons sd_var sd_nil)) sd_nil)))) sg_name)
    (ss_seq (ss_for (si_rng sd_int) sg_name (ss_seq (ss_asg (sd_call (sd_cons sd_var (sd_cons (sd_op sr_ix sd_var sd_int) (sd_cons (sd_op sr_ix sd_var sd_int) (sd_cons (sd_op sr_ix sd_var sd_int) sd_nil))))) sg_name)
    (ss_seq (ss_if (sd_or (sd_not (sd_tru (sd_cb sc_isi (sd_cons sd_var (sd_cons sd_ty sd_nil))))) (sd_test (sd_op sr_ne sd_var (sd_lst 3 (len_cons (len_cons (len_cons len_nil))) (by decide) (sd_cons sd_var (sd_cons sd_var (sd_cons sd_var sd_nil))))))) (ss_ret sd_bl) ss_next)
    (ss_seq (ss_asg (sd_lst 0 len_nil (by decide) sd_nil) sg_name)
    (ss_seq (ss_for (si_list sd_var) sg_name (ss_seq (ss_if (sd_or (sd_not (sd_tru (sd_call (sd_cons sd_var sd_nil)))) (sd_or (sd_test (sd_op sr_eq sd_var (sd_lst 0 len_nil (by decide) sd_nil))) (sd_not (sd_tru (sd_cb sc_all (sd_cons (sd_lc (si_list sd_var) sg_name (wp_name (by simp)) sd_yes (sd_chain sr_le sr_lt sd_int sd_var (sd_cb sc_len (sd_cons sd_var sd_nil)))) sd_nil)))))) (ss_ret sd_bl) ss_next)
    (ss_seq (ss_asg (sd_lc (si_list sd_var) sg_name (wp_name (by simp)) sd_yes (sd_op sr_ix sd_var sd_var)) sg_name)
    (ss_seq (ss_if (sd_test (sd_op sr_ne (sd_lenSet (sd_cons sd_var sd_nil)) (sd_cb sc_len (sd_cons sd_var sd_nil)))) (ss_ret sd_bl) ss_next)
    (ss_seq (ss_if (sd_test (sd_op sr_ne (sd_lc (si_list sd_var) sg_name (wp_name (by simp)) sd_yes (sd_call (sd_cons (sd_op sr_ix sd_var sd_var) (sd_cons (sd_op sr_ix sd_var sd_var) sd_nil)))) (sd_op sr_add (sd_sl sd_var (so_some sd_int) so_none) (sd_sl sd_var so_none (so_some sd_int))))) (ss_ret sd_bl) ss_next)
    (ss_asg (sd_op sr_add sd_var sd_var) sg_name))))))
    (ss_seq (ss_if (sd_test (sd_op sr_ne (sd_cb sc_sorted (sd_cons sd_var sd_nil)) (sd_lc (si_rng (sd_cb sc_len (sd_cons sd_var sd_nil))) sg_name (wp_name (by simp)) (sd_test (sd_op sr_ne (sd_op sr_ix sd_var sd_var) (sd_op sr_ix sd_var sd_var))) sd_var))) (ss_ret sd_bl) ss_next)
    (ss_seq (ss_asg (sd_lc (si_list sd_var) sg_name (wp_name (by simp)) sd_yes (sd_cb sc_list (sd_cons sd_var sd_nil))) sg_name)
    (ss_seq (ss_for (si_list sd_var) sg_name (ss_expr (sd_bm sm_append sd_var (sd_cons (sd_neg sd_int) sd_nil))))
    (ss_seq (ss_expr (sd_bm sm_append sd_var (sd_cons (sd_lst 0 len_nil (by decide) sd_nil) sd_nil)))
    (ss_if (sd_test (sd_op sr_ne (sd_call (sd_cons sd_var (sd_cons (sd_op sr_ix sd_var sd_int) (sd_cons (sd_op sr_ix sd_var sd_int) (sd_cons (sd_op sr_ix sd_var sd_int) sd_nil))))) sd_var)) (ss_ret sd_bl) ss_next))))))))))
    (ss_ret sd_bl))))⟩)

abbrev s__law_around_right : Stmt := top 26
theorem sc__law_around_right : FnScope ["_law_size", "_law_turn", "_law_names", "_law_order", "_law_row", "_law_tasks_here", "_law_there", "_law_one", "_law_other", "_law_found", "_law_name", "_law_at"] ["_law_size", "_law_turn"] (defScope s__law_around_right) := ⟨rfl, rfl, rfl, by decide +kernel, rfl, by decide +kernel, by decide +kernel⟩
theorem ok__law_around_right {f : Addr} {fd : FuncData} (F : Fun g.K "_law_around_right" "_law_around_right" s__law_around_right f fd) (T : Tx g mg) (c_rings : Cal P w g.K mg base CX0 4 "rings" ["people", "tasks", "sharing", "another"] (iSp g i_rings)) (c__law_right : Cal P w g.K mg base CX0 5 "_law_right" ["_law_people", "_law_tasks_here", "_law_sharing_here", "_law_another"] (iSp g i__law_right)) : FnOk P w g.K mg base CX0 6 f fd ["_law_size", "_law_turn"] (iSp g i__law_around_right) :=
  F.ok sc__law_around_right (iSp_len rfl) (fun cdv AA outer s H vs Q E hr h => ⟨_, (pss_cons (ps_setLc (i := 2) (own := [("_law_one", 7)]) (by rfl) sc__law_around_right.nd rfl rfl (sw_true rfl rfl rfl (by decide +kernel)) (pi_range1 (by rfl) T.b.range (pa_cons (pv 0) pa_nil)) (blkOk_by (own := [("_law_one", 7)]) (N := ["_law_size", "_law_turn", "_law_names", "_law_order", "_law_row", "_law_tasks_here", "_law_there", "_law_one", "_law_other", "_law_found", "_law_name", "_law_at"]) (sc := defScope s__law_around_right) (by decide +kernel)) (fun _ _ _ _ _ => (pg_name (i := 7) sc__law_around_right.nd rfl (by first | exact Or.inl rfl | exact Or.inr rfl))) (fun _ _ _ _ _ => pts_nil) (fun _ _ _ _ _ => (pe_op op_mod (pe_op op_ADD (pe_op op_MUL (pv 1) pe_int) (pe_op op_MUL (pv 7) pe_int)) pe_int)))
    (pss_cons (ps_set (i := 3) sc__law_around_right.nd rfl (by first | exact Or.inl rfl | exact Or.inr rfl) (pe_callB cr_sortedI (by rfl) T.b.sorted (by decide +kernel) (pa_cons (pv 2) pa_nil)))
    (pss_cons (ps_set (i := 4) sc__law_around_right.nd rfl (by first | exact Or.inl rfl | exact Or.inr rfl) (pe_lc (own := [("_law_name", 10)]) (by rfl) sc__law_around_right.nd (pi_list (pv 2)) (blkOk_by (own := [("_law_name", 10)]) (N := ["_law_size", "_law_turn", "_law_names", "_law_order", "_law_row", "_law_tasks_here", "_law_there", "_law_one", "_law_other", "_law_found", "_law_name", "_law_at"]) (sc := defScope s__law_around_right) (by decide +kernel)) (fun _ _ _ _ _ => (pg_name (i := 10) sc__law_around_right.nd rfl (by first | exact Or.inl rfl | exact Or.inr rfl))) (fun _ _ _ _ _ => pts_nil) (fun _ _ _ _ _ => (pe_bm PySem.F.plainAttrs_list PySem.F.slot_list_index PySem.F.type_list_index mt_index (pv 3) (pa_cons (pv 10) pa_nil)))))
    (pss_cons (ps_setLc (i := 5) (own := [("_law_at", 11)]) (by rfl) sc__law_around_right.nd rfl rfl (sw_true rfl rfl rfl (by decide +kernel)) (pi_range1 (by rfl) T.b.range (pa_cons (pv 0) pa_nil)) (blkOk_by (own := [("_law_at", 11)]) (N := ["_law_size", "_law_turn", "_law_names", "_law_order", "_law_row", "_law_tasks_here", "_law_there", "_law_one", "_law_other", "_law_found", "_law_name", "_law_at"]) (sc := defScope s__law_around_right) (by decide +kernel)) (fun _ _ _ _ _ => (pg_name (i := 11) sc__law_around_right.nd rfl (by first | exact Or.inl rfl | exact Or.inr rfl))) (fun _ _ _ _ _ => pts_nil) (fun _ _ _ _ _ => (pe_callTy call_TUPLE (by rfl) T.b.tuple (by decide +kernel) (pa_cons (pe_callB cr_sortedI (by rfl) T.b.sorted (by decide +kernel) (pa_cons (pe_lst (pa_cons (pe_ix ix_seq (pv 4) (pv 11) (fun _ _ => rfl)) (pa_cons (pe_ix ix_seq (pv 4) (pe_op op_mod (pe_op op_ADD (pv 11) pe_int) (pv 0)) (fun _ _ => rfl)) pa_nil))) pa_nil)) pa_nil))))
    (pss_cons (ps_set (i := 6) sc__law_around_right.nd rfl (by first | exact Or.inl rfl | exact Or.inr rfl) (pe_op op_ADD (pe_slice sl_list (pv 4) (po_some pe_int) po_none) (pe_slice sl_list (pv 4) po_none (po_some pe_int))))
    (pss_cons (ps_for PassesOwn.never (by rfl) (pi_list (pe_lst (pa_cons (pe_tup (pa_cons (pv 4) (pa_cons (pv 6) pa_nil))) (pa_cons (pe_tup (pa_cons (pv 6) (pa_cons (pv 4) pa_nil))) pa_nil)))) (pg_tup rfl (pgs_cons (pg_name (i := 7) sc__law_around_right.nd rfl (by first | exact Or.inl rfl | exact Or.inr rfl)) (pgs_cons (pg_name (i := 8) sc__law_around_right.nd rfl (by first | exact Or.inl rfl | exact Or.inr rfl)) pgs_nil))) (pss_cons (ps_set (i := 9) sc__law_around_right.nd rfl (by first | exact Or.inl rfl | exact Or.inr rfl) (pe_cal c_rings (hr.mono (by decide)) (by rfl) (pa_cons (pv 0) (pa_cons (pv 5) (pa_cons (pv 7) (pa_cons (pv 8) pa_nil))))))
    (pss_one (ps_if (pw_or (pt_cmpR (op_neD hr.units) (pe_callB call_LEN (by rfl) T.b.len (by decide +kernel) (pa_cons (pv 9) pa_nil)) pe_int (nomark _)) (pw_or (pt_cmpR (op_neD hr.units) (pe_callB cr_sortedI (by rfl) T.b.sorted (by decide +kernel) (pa_cons (pe_ix ix_seq (pv 9) pe_int (fun _ _ => rfl)) pa_nil)) (pe_listRg rfl (by rfl) T.b.list (prg_1 (by rfl) T.b.range (pv 0))) (nomark _)) (pw_or1 (pt_not (pt_truth (pe_cal c__law_right (hr.mono (by decide)) (by rfl) (pa_cons (pv 0) (pa_cons (pv 5) (pa_cons (pv 7) (pa_cons (pv 8) pa_nil))))) (fun _ => rfl)))))).pt (pss_one (ps_ret pe_bl)) pss_nil))))
    (pss_one (ps_ret pe_bl)))))))), body h rfl ((ss_seq (ss_asg (sd_lc (si_rng sd_var) sg_name (wp_name (by simp)) sd_yes (sd_op sr_mod (sd_op sr_add (sd_op sr_mul sd_var sd_int) (sd_op sr_mul sd_var sd_int)) sd_int)) sg_name)
    (ss_seq (ss_asg (sd_cb sc_sorted (sd_cons sd_var sd_nil)) sg_name)
    (ss_seq (ss_asg (sd_lc (si_list sd_var) sg_name (wp_name (by simp)) sd_yes (sd_bm sm_index sd_var (sd_cons sd_var sd_nil))) sg_name)
    (ss_seq (ss_asg (sd_lc (si_rng sd_var) sg_name (wp_name (by simp)) sd_yes (sd_cb sc_tuple (sd_cons (sd_cb sc_sorted (sd_cons (sd_lst 2 (len_cons (len_cons len_nil)) (by decide) (sd_cons (sd_op sr_ix sd_var sd_var) (sd_cons (sd_op sr_ix sd_var (sd_op sr_mod (sd_op sr_add sd_var sd_int) sd_var)) sd_nil))) sd_nil)) sd_nil))) sg_name)
    (ss_seq (ss_asg (sd_op sr_add (sd_sl sd_var (so_some sd_int) so_none) (sd_sl sd_var so_none (so_some sd_int))) sg_name)
    (ss_seq (ss_for (si_list (sd_lst 2 (len_cons (len_cons len_nil)) (by decide) (sd_cons (sd_tup 2 (len_cons (len_cons len_nil)) (by decide) (sd_cons sd_var (sd_cons sd_var sd_nil))) (sd_cons (sd_tup 2 (len_cons (len_cons len_nil)) (by decide) (sd_cons sd_var (sd_cons sd_var sd_nil))) sd_nil)))) (sg_tup (sgs_cons sg_name (sgs_cons sg_name sgs_nil))) (ss_seq (ss_asg (sd_call (sd_cons sd_var (sd_cons sd_var (sd_cons sd_var (sd_cons sd_var sd_nil))))) sg_name)
    (ss_if (sd_or (sd_test (sd_op sr_ne (sd_cb sc_len (sd_cons sd_var sd_nil)) sd_int)) (sd_or (sd_test (sd_op sr_ne (sd_cb sc_sorted (sd_cons (sd_op sr_ix sd_var sd_int) sd_nil)) (sd_listRg sd_var))) (sd_not (sd_tru (sd_call (sd_cons sd_var (sd_cons sd_var (sd_cons sd_var (sd_cons sd_var sd_nil))))))))) (ss_ret sd_bl) ss_next)))
    (ss_ret sd_bl))))))))⟩)

abbrev s_law : Stmt := top 27
theorem sc_law : FnScope ["_law_script", "_law_people", "_law_tasks_here", "_law_first", "_law_second_here", "_law_begin", "_law_one", "_law_other", "_law_drawn", "_law_around"] ["_law_script"] (defScope s_law) := ⟨rfl, rfl, rfl, by decide +kernel, rfl, by decide +kernel, by decide +kernel⟩
theorem ok_law {f : Addr} {fd : FuncData} (F : Fun g.K "law" "law" s_law f fd) (T : Tx g mg) (c__law_tasks : Cal P w g.K mg base CX0 2 "_law_tasks" ["_law_script"] (iSp g i__law_tasks)) (c__law_sharing : Cal P w g.K mg base CX0 2 "_law_sharing" ["_law_script", "_law_tasks_here", "_law_by"] (iSp g i__law_sharing)) (c_rings : Cal P w g.K mg base CX0 4 "rings" ["people", "tasks", "sharing", "another"] (iSp g i_rings)) (c__law_around_right : Cal P w g.K mg base CX0 6 "_law_around_right" ["_law_size", "_law_turn"] (iSp g i__law_around_right)) (c__law_turned : Cal P w g.K mg base CX0 2 "_law_turned" ["_law_tasks_here", "_law_sharing_here", "_law_begin"] (iSp g i__law_turned)) (c__law_right : Cal P w g.K mg base CX0 5 "_law_right" ["_law_people", "_law_tasks_here", "_law_sharing_here", "_law_another"] (iSp g i__law_right)) (c__law_loads : Cal P w g.K mg base CX0 1 "_law_loads" ["_law_people", "_law_sharing_here"] (iSp g i__law_loads)) : FnOk P w g.K mg base CX0 7 f fd ["_law_script"] (iSp g i_law) :=
  F.ok sc_law (iSp_len rfl) (fun cdv AA outer s H vs Q E hr h => ⟨_, (pss_cons (ps_asg (pe_cal c__law_tasks (hr.mono (by decide)) (by rfl) (pa_cons (pv 0) pa_nil)) (pg_tup rfl (pgs_cons (pg_name (i := 1) sc_law.nd rfl (by first | exact Or.inl rfl | exact Or.inr rfl)) (pgs_cons (pg_name (i := 2) sc_law.nd rfl (by first | exact Or.inl rfl | exact Or.inr rfl)) pgs_nil))))
    (pss_cons (ps_if (pt_not (pt_truth (pe_cal c__law_around_right (hr.mono (by decide)) (by rfl) (pa_cons (pe_op op_ADD pe_int (pe_op op_mod (pe_callB (cr_sum rfl) (by rfl) T.b.sum (by decide +kernel) (pa_cons (pe_slice sl_list (pv 0) po_none (po_some pe_int)) pa_nil)) pe_int)) (pa_cons (pe_callB (cr_sum rfl) (by rfl) T.b.sum (by decide +kernel) (pa_cons (pe_slice sl_list (pv 0) po_none (po_some pe_int)) pa_nil)) pa_nil))) (fun _ => rfl))) (pss_one (ps_ret pe_bl)) pss_nil)
    (pss_cons (ps_set (i := 3) sc_law.nd rfl (by first | exact Or.inl rfl | exact Or.inr rfl) (pe_cal c__law_sharing (hr.mono (by decide)) (by rfl) (pa_cons (pv 0) (pa_cons (pv 2) (pa_cons pe_int pa_nil)))))
    (pss_cons (ps_set (i := 4) sc_law.nd rfl (by first | exact Or.inl rfl | exact Or.inr rfl) (pv 3))
    (pss_cons (ps_for PassesOwn.never (by rfl) (pi_range1 (by rfl) T.b.range (pa_cons (pe_callB (call_MIN rfl) (by rfl) T.b.min (by decide +kernel) (pa_cons (pv 1) (pa_cons pe_int pa_nil))) pa_nil)) (pg_name (i := 5) sc_law.nd rfl (by first | exact Or.inl rfl | exact Or.inr rfl)) (pss_one (ps_set (i := 4) sc_law.nd rfl (by first | exact Or.inl rfl | exact Or.inr rfl) (pe_cal c__law_turned (hr.mono (by decide)) (by rfl) (pa_cons (pv 2) (pa_cons (pv 4) (pa_cons (pv 5) pa_nil)))))))
    (pss_cons (ps_for PassesOwn.never (by rfl) (pi_list (pe_lst (pa_cons (pe_tup (pa_cons (pv 3) (pa_cons (pv 4) pa_nil))) (pa_cons (pe_tup (pa_cons (pv 4) (pa_cons (pv 3) pa_nil))) (pa_cons (pe_tup (pa_cons (pv 3) (pa_cons (pv 3) pa_nil))) pa_nil))))) (pg_tup rfl (pgs_cons (pg_name (i := 6) sc_law.nd rfl (by first | exact Or.inl rfl | exact Or.inr rfl)) (pgs_cons (pg_name (i := 7) sc_law.nd rfl (by first | exact Or.inl rfl | exact Or.inr rfl)) pgs_nil))) (pss_one (ps_if (pt_not (pt_truth (pe_cal c__law_right (hr.mono (by decide)) (by rfl) (pa_cons (pv 1) (pa_cons (pv 2) (pa_cons (pv 6) (pa_cons (pv 7) pa_nil))))) (fun _ => rfl))) (pss_one (ps_ret pe_bl)) pss_nil)))
    (pss_cons (ps_set (i := 8) sc_law.nd rfl (by first | exact Or.inl rfl | exact Or.inr rfl) (pe_cal c__law_sharing (hr.mono (by decide)) (by rfl) (pa_cons (pv 0) (pa_cons (pv 2) (pa_cons pe_int pa_nil)))))
    (pss_cons (ps_if (pw_and (pt_cmpR (op_eqD hr.units) (pe_cal c__law_loads (hr.mono (by decide)) (by rfl) (pa_cons (pv 1) (pa_cons (pv 8) pa_nil))) (pe_cal c__law_loads (hr.mono (by decide)) (by rfl) (pa_cons (pv 1) (pa_cons (pv 3) pa_nil))) (nomark _)) (pw_and1 (pt_not (pt_truth (pe_cal c__law_right (hr.mono (by decide)) (by rfl) (pa_cons (pv 1) (pa_cons (pv 2) (pa_cons (pv 3) (pa_cons (pv 8) pa_nil))))) (fun _ => rfl))))).pt (pss_one (ps_ret pe_bl)) pss_nil)
    (pss_cons (ps_set (i := 9) sc_law.nd rfl (by first | exact Or.inl rfl | exact Or.inr rfl) (pe_cal c_rings (hr.mono (by decide)) (by rfl) (pa_cons pe_int (pa_cons (pe_lst (pa_cons (pe_tup (pa_cons pe_int (pa_cons pe_int pa_nil))) (pa_cons (pe_tup (pa_cons pe_int (pa_cons pe_int pa_nil))) (pa_cons (pe_tup (pa_cons pe_int (pa_cons pe_int pa_nil))) pa_nil)))) (pa_cons (pe_lst (pa_cons pe_int (pa_cons pe_int (pa_cons pe_int pa_nil)))) (pa_cons (pe_lst (pa_cons pe_int (pa_cons pe_int (pa_cons pe_int pa_nil)))) pa_nil))))))
    (pss_one (ps_ret (pe_and (pe_cmpR (op_eqD hr.units) (pe_callB call_LEN (by rfl) T.b.len (by decide +kernel) (pa_cons (pv 9) pa_nil)) pe_int (nomark _)) (pe_and (pe_cmpR (op_eqD hr.units) (pe_callB cr_sortedI (by rfl) T.b.sorted (by decide +kernel) (pa_cons (pe_ix ix_seq (pv 9) pe_int (fun _ _ => rfl)) pa_nil)) (pe_lst (pa_cons pe_int (pa_cons pe_int (pa_cons pe_int pa_nil)))) (nomark _)) (pe_one (pe_cmpR (op_eqD hr.units) (pe_cal c_rings (hr.mono (by decide)) (by rfl) (pa_cons pe_int (pa_cons (pe_lst (pa_cons (pe_tup (pa_cons pe_int (pa_cons pe_int pa_nil))) (pa_cons (pe_tup (pa_cons pe_int (pa_cons pe_int pa_nil))) pa_nil))) (pa_cons (pe_lst (pa_cons pe_int (pa_cons pe_int pa_nil))) (pa_cons (pe_lst (pa_cons pe_int (pa_cons pe_int pa_nil))) pa_nil))))) (pe_lst pa_nil) (nomark _)))))))))))))))), body h rfl ((ss_seq (ss_asg (sd_call (sd_cons sd_var sd_nil)) (sg_tup (sgs_cons sg_name (sgs_cons sg_name sgs_nil))))
    (ss_seq (ss_if (sd_not (sd_tru (sd_call (sd_cons (sd_op sr_add sd_int (sd_op sr_mod (sd_cb sc_sum (sd_cons (sd_sl sd_var so_none (so_some sd_int)) sd_nil)) sd_int)) (sd_cons (sd_cb sc_sum (sd_cons (sd_sl sd_var so_none (so_some sd_int)) sd_nil)) sd_nil))))) (ss_ret sd_bl) ss_next)
    (ss_seq (ss_asg (sd_call (sd_cons sd_var (sd_cons sd_var (sd_cons sd_int sd_nil)))) sg_name)
    (ss_seq (ss_asg sd_var sg_name)
    (ss_seq (ss_for (si_rng (sd_cb sc_min (sd_cons sd_var (sd_cons sd_int sd_nil)))) sg_name (ss_asg (sd_call (sd_cons sd_var (sd_cons sd_var (sd_cons sd_var sd_nil)))) sg_name))
    (ss_seq (ss_for (si_list (sd_lst 3 (len_cons (len_cons (len_cons len_nil))) (by decide) (sd_cons (sd_tup 2 (len_cons (len_cons len_nil)) (by decide) (sd_cons sd_var (sd_cons sd_var sd_nil))) (sd_cons (sd_tup 2 (len_cons (len_cons len_nil)) (by decide) (sd_cons sd_var (sd_cons sd_var sd_nil))) (sd_cons (sd_tup 2 (len_cons (len_cons len_nil)) (by decide) (sd_cons sd_var (sd_cons sd_var sd_nil))) sd_nil))))) (sg_tup (sgs_cons sg_name (sgs_cons sg_name sgs_nil))) (ss_if (sd_not (sd_tru (sd_call (sd_cons sd_var (sd_cons sd_var (sd_cons sd_var (sd_cons sd_var sd_nil))))))) (ss_ret sd_bl) ss_next))
    (ss_seq (ss_asg (sd_call (sd_cons sd_var (sd_cons sd_var (sd_cons sd_int sd_nil)))) sg_name)
    (ss_seq (ss_if (sd_and (sd_test (sd_op sr_eq (sd_call (sd_cons sd_var (sd_cons sd_var sd_nil))) (sd_call (sd_cons sd_var (sd_cons sd_var sd_nil))))) (sd_not (sd_tru (sd_call (sd_cons sd_var (sd_cons sd_var (sd_cons sd_var (sd_cons sd_var sd_nil)))))))) (ss_ret sd_bl) ss_next)
    (ss_seq (ss_asg (sd_call (sd_cons sd_int (sd_cons (sd_lst 3 (len_cons (len_cons (len_cons len_nil))) (by decide) (sd_cons (sd_tup 2 (len_cons (len_cons len_nil)) (by decide) (sd_cons sd_int (sd_cons sd_int sd_nil))) (sd_cons (sd_tup 2 (len_cons (len_cons len_nil)) (by decide) (sd_cons sd_int (sd_cons sd_int sd_nil))) (sd_cons (sd_tup 2 (len_cons (len_cons len_nil)) (by decide) (sd_cons sd_int (sd_cons sd_int sd_nil))) sd_nil)))) (sd_cons (sd_lst 3 (len_cons (len_cons (len_cons len_nil))) (by decide) (sd_cons sd_int (sd_cons sd_int (sd_cons sd_int sd_nil)))) (sd_cons (sd_lst 3 (len_cons (len_cons (len_cons len_nil))) (by decide) (sd_cons sd_int (sd_cons sd_int (sd_cons sd_int sd_nil)))) sd_nil))))) sg_name)
    (ss_ret (sd_andV (sd_op sr_eq (sd_cb sc_len (sd_cons sd_var sd_nil)) sd_int) (sd_andV (sd_op sr_eq (sd_cb sc_sorted (sd_cons (sd_op sr_ix sd_var sd_int) sd_nil)) (sd_lst 3 (len_cons (len_cons (len_cons len_nil))) (by decide) (sd_cons sd_int (sd_cons sd_int (sd_cons sd_int sd_nil))))) (sd_op sr_eq (sd_call (sd_cons sd_int (sd_cons (sd_lst 2 (len_cons (len_cons len_nil)) (by decide) (sd_cons (sd_tup 2 (len_cons (len_cons len_nil)) (by decide) (sd_cons sd_int (sd_cons sd_int sd_nil))) (sd_cons (sd_tup 2 (len_cons (len_cons len_nil)) (by decide) (sd_cons sd_int (sd_cons sd_int sd_nil))) sd_nil))) (sd_cons (sd_lst 2 (len_cons (len_cons len_nil)) (by decide) (sd_cons sd_int (sd_cons sd_int sd_nil))) (sd_cons (sd_lst 2 (len_cons (len_cons len_nil)) (by decide) (sd_cons sd_int (sd_cons sd_int sd_nil))) sd_nil))))) (sd_lst 0 len_nil (by decide) sd_nil)))))))))))))))⟩)

end
end IL

end
section
set_option Elab.async false
set_option linter.all false
set_option maxRecDepth 100000
set_option maxHeartbeats 4000000
namespace IL
open PySem L2
section
variable {P : Program} {w : World} {g : Gm} {mg : Str → Option Value} {base : Heap}
theorem chain (T : Tx g mg) {f0 : Addr} {fd0 : FuncData} (F0 : Fun g.K "is_number" "is_number" s_is_number f0 fd0) (m0 : mg "is_number" = some (.ref f0)) (b0 : Binds g.K fd0 ["thing", "least"] []) {f1 : Addr} {fd1 : FuncData} (F1 : Fun g.K "is_task" "is_task" s_is_task f1 fd1) (m1 : mg "is_task" = some (.ref f1)) (b1 : Binds g.K fd1 ["thing", "people"] []) {f2 : Addr} {fd2 : FuncData} (F2 : Fun g.K "check_tasks" "check_tasks" s_check_tasks f2 fd2) (m2 : mg "check_tasks" = some (.ref f2)) (b2 : Binds g.K fd2 ["people", "tasks"] []) {f3 : Addr} {fd3 : FuncData} (F3 : Fun g.K "is_sharing" "is_sharing" s_is_sharing f3 fd3) (m3 : mg "is_sharing" = some (.ref f3)) (b3 : Binds g.K fd3 ["tasks", "sharing"] []) {f4 : Addr} {fd4 : FuncData} (F4 : Fun g.K "check_sharing" "check_sharing" s_check_sharing f4 fd4) (m4 : mg "check_sharing" = some (.ref f4)) (b4 : Binds g.K fd4 ["tasks", "sharing"] []) {f5 : Addr} {fd5 : FuncData} (F5 : Fun g.K "loads_of" "loads_of" s_loads_of f5 fd5) (m5 : mg "loads_of" = some (.ref f5)) (b5 : Binds g.K fd5 ["people", "sharing"] []) {f6 : Addr} {fd6 : FuncData} (F6 : Fun g.K "rings_from" "rings_from" s_rings_from f6 fd6) (m6 : mg "rings_from" = some (.ref f6)) (b6 : Binds g.K fd6 ["person", "giving", "another"] []) {f7 : Addr} {fd7 : FuncData} (F7 : Fun g.K "rings" "rings" s_rings f7 fd7) (m7 : mg "rings" = some (.ref f7)) (b7 : Binds g.K fd7 ["people", "tasks", "sharing", "another"] []) {f8 : Addr} {fd8 : FuncData} (F8 : Fun g.K "_law_number" "_law_number" s__law_number f8 fd8) (m8 : mg "_law_number" = some (.ref f8)) (b8 : Binds g.K fd8 ["_law_cell", "_law_at", "_law_whole"] []) {f9 : Addr} {fd9 : FuncData} (F9 : Fun g.K "_law_tasks" "_law_tasks" s__law_tasks f9 fd9) (m9 : mg "_law_tasks" = some (.ref f9)) (b9 : Binds g.K fd9 ["_law_script"] []) {f10 : Addr} {fd10 : FuncData} (F10 : Fun g.K "_law_sharing" "_law_sharing" s__law_sharing f10 fd10) (m10 : mg "_law_sharing" = some (.ref f10)) (b10 : Binds g.K fd10 ["_law_script", "_law_tasks_here", "_law_by"] []) {f11 : Addr} {fd11 : FuncData} (F11 : Fun g.K "_law_loads" "_law_loads" s__law_loads f11 fd11) (m11 : mg "_law_loads" = some (.ref f11)) (b11 : Binds g.K fd11 ["_law_people", "_law_sharing_here"] []) {f12 : Addr} {fd12 : FuncData} (F12 : Fun g.K "_law_wholes" "_law_wholes" s__law_wholes f12 fd12) (m12 : mg "_law_wholes" = some (.ref f12)) (b12 : Binds g.K fd12 ["_law_found"] []) {f13 : Addr} {fd13 : FuncData} (F13 : Fun g.K "_law_second" "_law_second" s__law_second f13 fd13) (m13 : mg "_law_second" = some (.ref f13)) (b13 : Binds g.K fd13 ["_law_task", "_law_who"] []) {f14 : Addr} {fd14 : FuncData} (F14 : Fun g.K "_law_turned" "_law_turned" s__law_turned f14 fd14) (m14 : mg "_law_turned" = some (.ref f14)) (b14 : Binds g.K fd14 ["_law_tasks_here", "_law_sharing_here", "_law_begin"] []) {f15 : Addr} {fd15 : FuncData} (F15 : Fun g.K "_law_right" "_law_right" s__law_right f15 fd15) (m15 : mg "_law_right" = some (.ref f15)) (b15 : Binds g.K fd15 ["_law_people", "_law_tasks_here", "_law_sharing_here", "_law_another"] []) {f16 : Addr} {fd16 : FuncData} (F16 : Fun g.K "_law_around_right" "_law_around_right" s__law_around_right f16 fd16) (m16 : mg "_law_around_right" = some (.ref f16)) (b16 : Binds g.K fd16 ["_law_size", "_law_turn"] []) {f17 : Addr} {fd17 : FuncData} (F17 : Fun g.K "law" "law" s_law f17 fd17) : FnOk P w g.K mg base CX0 7 f17 fd17 ["_law_script"] (iSp g i_law) := by
  have c_is_number : Cal P w g.K mg base CX0 1 "is_number" ["thing", "least"] (iSp g i_is_number) := ⟨_, _, ok_is_number F0 T , m0, F0.kp, b0⟩
  have c_is_task : Cal P w g.K mg base CX0 2 "is_task" ["thing", "people"] (iSp g i_is_task) := ⟨_, _, ok_is_task F1 T c_is_number, m1, F1.kp, b1⟩
  have c_check_tasks : Cal P w g.K mg base CX0 3 "check_tasks" ["people", "tasks"] (iSp g i_check_tasks) := ⟨_, _, ok_check_tasks F2 T c_is_number c_is_task, m2, F2.kp, b2⟩
  have c_is_sharing : Cal P w g.K mg base CX0 2 "is_sharing" ["tasks", "sharing"] (iSp g i_is_sharing) := ⟨_, _, ok_is_sharing F3 T c_is_number, m3, F3.kp, b3⟩
  have c_check_sharing : Cal P w g.K mg base CX0 3 "check_sharing" ["tasks", "sharing"] (iSp g i_check_sharing) := ⟨_, _, ok_check_sharing F4 T c_is_sharing, m4, F4.kp, b4⟩
  have c_loads_of : Cal P w g.K mg base CX0 1 "loads_of" ["people", "sharing"] (iSp g i_loads_of) := ⟨_, _, ok_loads_of F5 T , m5, F5.kp, b5⟩
  have c_rings_from : Cal P w g.K mg base CX0 1 "rings_from" ["person", "giving", "another"] (iSp g i_rings_from) := ⟨_, _, ok_rings_from F6 T , m6, F6.kp, b6⟩
  have c_rings : Cal P w g.K mg base CX0 4 "rings" ["people", "tasks", "sharing", "another"] (iSp g i_rings) := ⟨_, _, ok_rings F7 T c_check_tasks c_check_sharing c_loads_of c_rings_from, m7, F7.kp, b7⟩
  have c__law_number : Cal P w g.K mg base CX0 1 "_law_number" ["_law_cell", "_law_at", "_law_whole"] (iSp g i__law_number) := ⟨_, _, ok__law_number F8 T , m8, F8.kp, b8⟩
  have c__law_tasks : Cal P w g.K mg base CX0 2 "_law_tasks" ["_law_script"] (iSp g i__law_tasks) := ⟨_, _, ok__law_tasks F9 T c__law_number, m9, F9.kp, b9⟩
  have c__law_sharing : Cal P w g.K mg base CX0 2 "_law_sharing" ["_law_script", "_law_tasks_here", "_law_by"] (iSp g i__law_sharing) := ⟨_, _, ok__law_sharing F10 T c__law_number, m10, F10.kp, b10⟩
  have c__law_loads : Cal P w g.K mg base CX0 1 "_law_loads" ["_law_people", "_law_sharing_here"] (iSp g i__law_loads) := ⟨_, _, ok__law_loads F11 T , m11, F11.kp, b11⟩
  have c__law_wholes : Cal P w g.K mg base CX0 1 "_law_wholes" ["_law_found"] (iSp g i__law_wholes) := ⟨_, _, ok__law_wholes F12 T , m12, F12.kp, b12⟩
  have c__law_second : Cal P w g.K mg base CX0 1 "_law_second" ["_law_task", "_law_who"] (iSp g i__law_second) := ⟨_, _, ok__law_second F13 T , m13, F13.kp, b13⟩
  have c__law_turned : Cal P w g.K mg base CX0 2 "_law_turned" ["_law_tasks_here", "_law_sharing_here", "_law_begin"] (iSp g i__law_turned) := ⟨_, _, ok__law_turned F14 T c__law_second, m14, F14.kp, b14⟩
  have c__law_right : Cal P w g.K mg base CX0 5 "_law_right" ["_law_people", "_law_tasks_here", "_law_sharing_here", "_law_another"] (iSp g i__law_right) := ⟨_, _, ok__law_right F15 T c_rings c__law_wholes c__law_second, m15, F15.kp, b15⟩
  have c__law_around_right : Cal P w g.K mg base CX0 6 "_law_around_right" ["_law_size", "_law_turn"] (iSp g i__law_around_right) := ⟨_, _, ok__law_around_right F16 T c_rings c__law_right, m16, F16.kp, b16⟩
  exact ok_law F17 T c__law_tasks c__law_sharing c_rings c__law_around_right c__law_turned c__law_right c__law_loads

theorem all_mk {l : PySem.W.OpenLaw} {w : World} {K : PySem.W.Frag} {h : Heap} {mg : Str → Option Value} {fa : Addr} (X : K.In h) (G : h.Ns mainGlobals mg) (hfa : mg "law" = some (.ref fa))
    {f0 : Addr} {od0 an0 : Option Addr} {sl0 : Array (Option Value)} {oc0 kV0 dc0 pm0 cd0 ct0 : Value}
    (a0 : PySem.W.nsIn K mainGlobals "is_number" = some (some (.ref f0))) (l0 : K.lookup f0 = some ⟨oc0, od0, .func (PySem.W.fnOf "is_number" "is_number" (defArgs s_is_number) (defBody s_is_number) (defScope s_is_number) .none kV0 dc0 pm0 an0 cd0 ct0), sl0⟩) (c0 : PySem.W.codeIn K cd0 "is_number" = true) (k0 : PySem.W.keepIn K (.ref f0) = true)
    {f1 : Addr} {od1 an1 : Option Addr} {sl1 : Array (Option Value)} {oc1 kV1 dc1 pm1 cd1 ct1 : Value}
    (a1 : PySem.W.nsIn K mainGlobals "is_task" = some (some (.ref f1))) (l1 : K.lookup f1 = some ⟨oc1, od1, .func (PySem.W.fnOf "is_task" "is_task" (defArgs s_is_task) (defBody s_is_task) (defScope s_is_task) .none kV1 dc1 pm1 an1 cd1 ct1), sl1⟩) (c1 : PySem.W.codeIn K cd1 "is_task" = true) (k1 : PySem.W.keepIn K (.ref f1) = true)
    {f2 : Addr} {od2 an2 : Option Addr} {sl2 : Array (Option Value)} {oc2 kV2 dc2 pm2 cd2 ct2 : Value}
    (a2 : PySem.W.nsIn K mainGlobals "check_tasks" = some (some (.ref f2))) (l2 : K.lookup f2 = some ⟨oc2, od2, .func (PySem.W.fnOf "check_tasks" "check_tasks" (defArgs s_check_tasks) (defBody s_check_tasks) (defScope s_check_tasks) .none kV2 dc2 pm2 an2 cd2 ct2), sl2⟩) (c2 : PySem.W.codeIn K cd2 "check_tasks" = true) (k2 : PySem.W.keepIn K (.ref f2) = true)
    {f3 : Addr} {od3 an3 : Option Addr} {sl3 : Array (Option Value)} {oc3 kV3 dc3 pm3 cd3 ct3 : Value}
    (a3 : PySem.W.nsIn K mainGlobals "is_sharing" = some (some (.ref f3))) (l3 : K.lookup f3 = some ⟨oc3, od3, .func (PySem.W.fnOf "is_sharing" "is_sharing" (defArgs s_is_sharing) (defBody s_is_sharing) (defScope s_is_sharing) .none kV3 dc3 pm3 an3 cd3 ct3), sl3⟩) (c3 : PySem.W.codeIn K cd3 "is_sharing" = true) (k3 : PySem.W.keepIn K (.ref f3) = true)
    {f4 : Addr} {od4 an4 : Option Addr} {sl4 : Array (Option Value)} {oc4 kV4 dc4 pm4 cd4 ct4 : Value}
    (a4 : PySem.W.nsIn K mainGlobals "check_sharing" = some (some (.ref f4))) (l4 : K.lookup f4 = some ⟨oc4, od4, .func (PySem.W.fnOf "check_sharing" "check_sharing" (defArgs s_check_sharing) (defBody s_check_sharing) (defScope s_check_sharing) .none kV4 dc4 pm4 an4 cd4 ct4), sl4⟩) (c4 : PySem.W.codeIn K cd4 "check_sharing" = true) (k4 : PySem.W.keepIn K (.ref f4) = true)
    {f5 : Addr} {od5 an5 : Option Addr} {sl5 : Array (Option Value)} {oc5 kV5 dc5 pm5 cd5 ct5 : Value}
    (a5 : PySem.W.nsIn K mainGlobals "loads_of" = some (some (.ref f5))) (l5 : K.lookup f5 = some ⟨oc5, od5, .func (PySem.W.fnOf "loads_of" "loads_of" (defArgs s_loads_of) (defBody s_loads_of) (defScope s_loads_of) .none kV5 dc5 pm5 an5 cd5 ct5), sl5⟩) (c5 : PySem.W.codeIn K cd5 "loads_of" = true) (k5 : PySem.W.keepIn K (.ref f5) = true)
    {f6 : Addr} {od6 an6 : Option Addr} {sl6 : Array (Option Value)} {oc6 kV6 dc6 pm6 cd6 ct6 : Value}
    (a6 : PySem.W.nsIn K mainGlobals "rings_from" = some (some (.ref f6))) (l6 : K.lookup f6 = some ⟨oc6, od6, .func (PySem.W.fnOf "rings_from" "rings_from" (defArgs s_rings_from) (defBody s_rings_from) (defScope s_rings_from) .none kV6 dc6 pm6 an6 cd6 ct6), sl6⟩) (c6 : PySem.W.codeIn K cd6 "rings_from" = true) (k6 : PySem.W.keepIn K (.ref f6) = true)
    {f7 : Addr} {od7 an7 : Option Addr} {sl7 : Array (Option Value)} {oc7 kV7 dc7 pm7 cd7 ct7 : Value}
    (a7 : PySem.W.nsIn K mainGlobals "rings" = some (some (.ref f7))) (l7 : K.lookup f7 = some ⟨oc7, od7, .func (PySem.W.fnOf "rings" "rings" (defArgs s_rings) (defBody s_rings) (defScope s_rings) .none kV7 dc7 pm7 an7 cd7 ct7), sl7⟩) (c7 : PySem.W.codeIn K cd7 "rings" = true) (k7 : PySem.W.keepIn K (.ref f7) = true)
    {f8 : Addr} {od8 an8 : Option Addr} {sl8 : Array (Option Value)} {oc8 kV8 dc8 pm8 cd8 ct8 : Value}
    (a8 : PySem.W.nsIn K mainGlobals "_law_number" = some (some (.ref f8))) (l8 : K.lookup f8 = some ⟨oc8, od8, .func (PySem.W.fnOf "_law_number" "_law_number" (defArgs s__law_number) (defBody s__law_number) (defScope s__law_number) .none kV8 dc8 pm8 an8 cd8 ct8), sl8⟩) (c8 : PySem.W.codeIn K cd8 "_law_number" = true) (k8 : PySem.W.keepIn K (.ref f8) = true)
    {f9 : Addr} {od9 an9 : Option Addr} {sl9 : Array (Option Value)} {oc9 kV9 dc9 pm9 cd9 ct9 : Value}
    (a9 : PySem.W.nsIn K mainGlobals "_law_tasks" = some (some (.ref f9))) (l9 : K.lookup f9 = some ⟨oc9, od9, .func (PySem.W.fnOf "_law_tasks" "_law_tasks" (defArgs s__law_tasks) (defBody s__law_tasks) (defScope s__law_tasks) .none kV9 dc9 pm9 an9 cd9 ct9), sl9⟩) (c9 : PySem.W.codeIn K cd9 "_law_tasks" = true) (k9 : PySem.W.keepIn K (.ref f9) = true)
    {f10 : Addr} {od10 an10 : Option Addr} {sl10 : Array (Option Value)} {oc10 kV10 dc10 pm10 cd10 ct10 : Value}
    (a10 : PySem.W.nsIn K mainGlobals "_law_sharing" = some (some (.ref f10))) (l10 : K.lookup f10 = some ⟨oc10, od10, .func (PySem.W.fnOf "_law_sharing" "_law_sharing" (defArgs s__law_sharing) (defBody s__law_sharing) (defScope s__law_sharing) .none kV10 dc10 pm10 an10 cd10 ct10), sl10⟩) (c10 : PySem.W.codeIn K cd10 "_law_sharing" = true) (k10 : PySem.W.keepIn K (.ref f10) = true)
    {f11 : Addr} {od11 an11 : Option Addr} {sl11 : Array (Option Value)} {oc11 kV11 dc11 pm11 cd11 ct11 : Value}
    (a11 : PySem.W.nsIn K mainGlobals "_law_loads" = some (some (.ref f11))) (l11 : K.lookup f11 = some ⟨oc11, od11, .func (PySem.W.fnOf "_law_loads" "_law_loads" (defArgs s__law_loads) (defBody s__law_loads) (defScope s__law_loads) .none kV11 dc11 pm11 an11 cd11 ct11), sl11⟩) (c11 : PySem.W.codeIn K cd11 "_law_loads" = true) (k11 : PySem.W.keepIn K (.ref f11) = true)
    {f12 : Addr} {od12 an12 : Option Addr} {sl12 : Array (Option Value)} {oc12 kV12 dc12 pm12 cd12 ct12 : Value}
    (a12 : PySem.W.nsIn K mainGlobals "_law_wholes" = some (some (.ref f12))) (l12 : K.lookup f12 = some ⟨oc12, od12, .func (PySem.W.fnOf "_law_wholes" "_law_wholes" (defArgs s__law_wholes) (defBody s__law_wholes) (defScope s__law_wholes) .none kV12 dc12 pm12 an12 cd12 ct12), sl12⟩) (c12 : PySem.W.codeIn K cd12 "_law_wholes" = true) (k12 : PySem.W.keepIn K (.ref f12) = true)
    {f13 : Addr} {od13 an13 : Option Addr} {sl13 : Array (Option Value)} {oc13 kV13 dc13 pm13 cd13 ct13 : Value}
    (a13 : PySem.W.nsIn K mainGlobals "_law_second" = some (some (.ref f13))) (l13 : K.lookup f13 = some ⟨oc13, od13, .func (PySem.W.fnOf "_law_second" "_law_second" (defArgs s__law_second) (defBody s__law_second) (defScope s__law_second) .none kV13 dc13 pm13 an13 cd13 ct13), sl13⟩) (c13 : PySem.W.codeIn K cd13 "_law_second" = true) (k13 : PySem.W.keepIn K (.ref f13) = true)
    {f14 : Addr} {od14 an14 : Option Addr} {sl14 : Array (Option Value)} {oc14 kV14 dc14 pm14 cd14 ct14 : Value}
    (a14 : PySem.W.nsIn K mainGlobals "_law_turned" = some (some (.ref f14))) (l14 : K.lookup f14 = some ⟨oc14, od14, .func (PySem.W.fnOf "_law_turned" "_law_turned" (defArgs s__law_turned) (defBody s__law_turned) (defScope s__law_turned) .none kV14 dc14 pm14 an14 cd14 ct14), sl14⟩) (c14 : PySem.W.codeIn K cd14 "_law_turned" = true) (k14 : PySem.W.keepIn K (.ref f14) = true)
    {f15 : Addr} {od15 an15 : Option Addr} {sl15 : Array (Option Value)} {oc15 kV15 dc15 pm15 cd15 ct15 : Value}
    (a15 : PySem.W.nsIn K mainGlobals "_law_right" = some (some (.ref f15))) (l15 : K.lookup f15 = some ⟨oc15, od15, .func (PySem.W.fnOf "_law_right" "_law_right" (defArgs s__law_right) (defBody s__law_right) (defScope s__law_right) .none kV15 dc15 pm15 an15 cd15 ct15), sl15⟩) (c15 : PySem.W.codeIn K cd15 "_law_right" = true) (k15 : PySem.W.keepIn K (.ref f15) = true)
    {f16 : Addr} {od16 an16 : Option Addr} {sl16 : Array (Option Value)} {oc16 kV16 dc16 pm16 cd16 ct16 : Value}
    (a16 : PySem.W.nsIn K mainGlobals "_law_around_right" = some (some (.ref f16))) (l16 : K.lookup f16 = some ⟨oc16, od16, .func (PySem.W.fnOf "_law_around_right" "_law_around_right" (defArgs s__law_around_right) (defBody s__law_around_right) (defScope s__law_around_right) .none kV16 dc16 pm16 an16 cd16 ct16), sl16⟩) (c16 : PySem.W.codeIn K cd16 "_law_around_right" = true) (k16 : PySem.W.keepIn K (.ref f16) = true)
    {f17 : Addr} {od17 an17 : Option Addr} {sl17 : Array (Option Value)} {oc17 kV17 dc17 pm17 cd17 ct17 : Value}
    (a17 : PySem.W.nsIn K mainGlobals "law" = some (some (.ref f17))) (l17 : K.lookup f17 = some ⟨oc17, od17, .func (PySem.W.fnOf "law" "law" (defArgs s_law) (defBody s_law) (defScope s_law) .none kV17 dc17 pm17 an17 cd17 ct17), sl17⟩) (c17 : PySem.W.codeIn K cd17 "law" = true) (k17 : PySem.W.keepIn K (.ref f17) = true)
 (z_len : PySem.W.nsIn K mainGlobals "len" = some none) (z_isinstance : PySem.W.nsIn K mainGlobals "isinstance" = some none) (z_int : PySem.W.nsIn K mainGlobals "int" = some none) (z_bool : PySem.W.nsIn K mainGlobals "bool" = some none) (z_list : PySem.W.nsIn K mainGlobals "list" = some none) (z_tuple : PySem.W.nsIn K mainGlobals "tuple" = some none) (z_all : PySem.W.nsIn K mainGlobals "all" = some none) (z_any : PySem.W.nsIn K mainGlobals "any" = some none) (z_sum : PySem.W.nsIn K mainGlobals "sum" = some none) (z_max : PySem.W.nsIn K mainGlobals "max" = some none) (z_min : PySem.W.nsIn K mainGlobals "min" = some none) (z_sorted : PySem.W.nsIn K mainGlobals "sorted" = some none) (z_set : PySem.W.nsIn K mainGlobals "set" = some none) (z_range : PySem.W.nsIn K mainGlobals "range" = some none) (z_enumerate : PySem.W.nsIn K mainGlobals "enumerate" = some none) (z_zip : PySem.W.nsIn K mainGlobals "zip" = some none) (z_abs : PySem.W.nsIn K mainGlobals "abs" = some none) (z_str : PySem.W.nsIn K mainGlobals "str" = some none)
    {tM : _} (zM : PySem.W.nsIn K mainGlobals "MOST" = some (some (.int 60 tM))) :
    ∃ fd : FuncData, (∀ (s : PySem.Shared) (v : Value), BindsTo s fd ⟨[v], []⟩ [("_law_script", v)]) ∧ ∀ base : Heap, K.In base → base.Ns mainGlobals mg → FnOk l.prog w K mg base CX0 7 fa fd ["_law_script"] (lawSp i_law K) := by
  have e := hfa.symm.trans (PySem.W.mg_of X G a17)
  cases e
  have B : Bt mg := ⟨PySem.W.mg_none_of X G z_len, PySem.W.mg_none_of X G z_isinstance, PySem.W.mg_none_of X G z_int, PySem.W.mg_none_of X G z_bool, PySem.W.mg_none_of X G z_list, PySem.W.mg_none_of X G z_tuple, PySem.W.mg_none_of X G z_all, PySem.W.mg_none_of X G z_any, PySem.W.mg_none_of X G z_sum, PySem.W.mg_none_of X G z_max, PySem.W.mg_none_of X G z_min, PySem.W.mg_none_of X G z_sorted, PySem.W.mg_none_of X G z_set, PySem.W.mg_none_of X G z_range, PySem.W.mg_none_of X G z_enumerate, PySem.W.mg_none_of X G z_zip, PySem.W.mg_none_of X G z_abs, PySem.W.mg_none_of X G z_str⟩
  have F0 := fun_mk (st := s_is_number) l0 c0 k0
  have b0 := F0.binds (ps := ["thing", "least"]) fun _ _ _ _ _ _ us hl => match us, hl with | [_, _], _ => rfl
  have F1 := fun_mk (st := s_is_task) l1 c1 k1
  have b1 := F1.binds (ps := ["thing", "people"]) fun _ _ _ _ _ _ us hl => match us, hl with | [_, _], _ => rfl
  have F2 := fun_mk (st := s_check_tasks) l2 c2 k2
  have b2 := F2.binds (ps := ["people", "tasks"]) fun _ _ _ _ _ _ us hl => match us, hl with | [_, _], _ => rfl
  have F3 := fun_mk (st := s_is_sharing) l3 c3 k3
  have b3 := F3.binds (ps := ["tasks", "sharing"]) fun _ _ _ _ _ _ us hl => match us, hl with | [_, _], _ => rfl
  have F4 := fun_mk (st := s_check_sharing) l4 c4 k4
  have b4 := F4.binds (ps := ["tasks", "sharing"]) fun _ _ _ _ _ _ us hl => match us, hl with | [_, _], _ => rfl
  have F5 := fun_mk (st := s_loads_of) l5 c5 k5
  have b5 := F5.binds (ps := ["people", "sharing"]) fun _ _ _ _ _ _ us hl => match us, hl with | [_, _], _ => rfl
  have F6 := fun_mk (st := s_rings_from) l6 c6 k6
  have b6 := F6.binds (ps := ["person", "giving", "another"]) fun _ _ _ _ _ _ us hl => match us, hl with | [_, _, _], _ => rfl
  have F7 := fun_mk (st := s_rings) l7 c7 k7
  have b7 := F7.binds (ps := ["people", "tasks", "sharing", "another"]) fun _ _ _ _ _ _ us hl => match us, hl with | [_, _, _, _], _ => rfl
  have F8 := fun_mk (st := s__law_number) l8 c8 k8
  have b8 := F8.binds (ps := ["_law_cell", "_law_at", "_law_whole"]) fun _ _ _ _ _ _ us hl => match us, hl with | [_, _, _], _ => rfl
  have F9 := fun_mk (st := s__law_tasks) l9 c9 k9
  have b9 := F9.binds (ps := ["_law_script"]) fun _ _ _ _ _ _ us hl => match us, hl with | [_], _ => rfl
  have F10 := fun_mk (st := s__law_sharing) l10 c10 k10
  have b10 := F10.binds (ps := ["_law_script", "_law_tasks_here", "_law_by"]) fun _ _ _ _ _ _ us hl => match us, hl with | [_, _, _], _ => rfl
  have F11 := fun_mk (st := s__law_loads) l11 c11 k11
  have b11 := F11.binds (ps := ["_law_people", "_law_sharing_here"]) fun _ _ _ _ _ _ us hl => match us, hl with | [_, _], _ => rfl
  have F12 := fun_mk (st := s__law_wholes) l12 c12 k12
  have b12 := F12.binds (ps := ["_law_found"]) fun _ _ _ _ _ _ us hl => match us, hl with | [_], _ => rfl
  have F13 := fun_mk (st := s__law_second) l13 c13 k13
  have b13 := F13.binds (ps := ["_law_task", "_law_who"]) fun _ _ _ _ _ _ us hl => match us, hl with | [_, _], _ => rfl
  have F14 := fun_mk (st := s__law_turned) l14 c14 k14
  have b14 := F14.binds (ps := ["_law_tasks_here", "_law_sharing_here", "_law_begin"]) fun _ _ _ _ _ _ us hl => match us, hl with | [_, _, _], _ => rfl
  have F15 := fun_mk (st := s__law_right) l15 c15 k15
  have b15 := F15.binds (ps := ["_law_people", "_law_tasks_here", "_law_sharing_here", "_law_another"]) fun _ _ _ _ _ _ us hl => match us, hl with | [_, _, _, _], _ => rfl
  have F16 := fun_mk (st := s__law_around_right) l16 c16 k16
  have b16 := F16.binds (ps := ["_law_size", "_law_turn"]) fun _ _ _ _ _ _ us hl => match us, hl with | [_, _], _ => rfl
  have F17 := fun_mk (st := s_law) l17 c17 k17
  refine ⟨_, fun s v => .of_eq rfl, fun base _ _ => fnok_ex fun aA nS => chain (g := ⟨gam K, K, aA, nS⟩) ⟨B, ⟨_, PySem.W.mg_of X G zM⟩⟩ F0 (PySem.W.mg_of X G a0) b0 F1 (PySem.W.mg_of X G a1) b1 F2 (PySem.W.mg_of X G a2) b2 F3 (PySem.W.mg_of X G a3) b3 F4 (PySem.W.mg_of X G a4) b4 F5 (PySem.W.mg_of X G a5) b5 F6 (PySem.W.mg_of X G a6) b6 F7 (PySem.W.mg_of X G a7) b7 F8 (PySem.W.mg_of X G a8) b8 F9 (PySem.W.mg_of X G a9) b9 F10 (PySem.W.mg_of X G a10) b10 F11 (PySem.W.mg_of X G a11) b11 F12 (PySem.W.mg_of X G a12) b12 F13 (PySem.W.mg_of X G a13) b13 F14 (PySem.W.mg_of X G a14) b14 F15 (PySem.W.mg_of X G a15) b15 F16 (PySem.W.mg_of X G a16) b16 F17⟩

theorem walk {l : PySem.W.OpenLaw} {q : Program} {loose : List Str} {XP : (Str → Option Value) → Heap → Prop} {YP : World → Heap → Prop} {d : DefRec} {K : Params → PySem.W.Frag} (hn : l.most = some 63) (hdf : d.params.defaults = [])
    (hY : ∀ (w : World) (h : Heap), YP w h → (K w.params).In h)
    (F : ∀ (w : World) (mg : Str → Option Value) (fa : Addr) (h : Heap), (K w.params).In h → h.Ns mainGlobals mg → mg d.name = some (.ref fa) →
      ∃ fd : FuncData, (∀ (s : PySem.Shared) (u : Value), BindsTo s fd ⟨[u], []⟩ [("_law_script", u)]) ∧ ∀ base : Heap, (K w.params).In base → base.Ns mainGlobals mg → FnOk l.prog w (K w.params) mg base CX0 7 fa fd ["_law_script"] (lawSp i_law (K w.params))) :
    PySem.W.WalkO q loose XP YP l.row.toRowW d [] (fun f vs => PySem.call f vs) :=
  L2.walk_ofB (n := 63) (k := 7) (x := "_law_script") (CX := fun _ => CX0) (sp := fun w => lawSp i_law (K w.params)) hn (by decide) hdf ⟨rfl, by decide, by decide⟩ hY F (fun _ _ a ns hl hb hO hS => law_sp (law_true4 hl hb) hO hS) fun _ _ _ _ _ z => z

end
end IL
open PySem PySem.W PyProof.Rows in
set_option maxRecDepth 100000 in
set_option maxHeartbeats 0 in
theorem PySem.Challenge.cw_eitherdoes_k04_whole_rings_holds : PySem.Challenge.rw_eitherdoes_k04_whole_rings.Holds := by
  w_on; o_law; k_head; (case hw => w_witness2)
  k_fill
  refine IL.walk (l := PySem.Challenge.rw_eitherdoes_k04_whole_rings) rfl rfl (fun w h Y => PySem.W.kIn_of Y) ?F
  case F =>
    intro w mg fa h KX G hmg
    refine' IL.all_mk KX G hmg ?a0 ?l0 ?c0 ?k0 ?a1 ?l1 ?c1 ?k1 ?a2 ?l2 ?c2 ?k2 ?a3 ?l3 ?c3 ?k3 ?a4 ?l4 ?c4 ?k4 ?a5 ?l5 ?c5 ?k5 ?a6 ?l6 ?c6 ?k6 ?a7 ?l7 ?c7 ?k7 ?a8 ?l8 ?c8 ?k8 ?a9 ?l9 ?c9 ?k9 ?a10 ?l10 ?c10 ?k10 ?a11 ?l11 ?c11 ?k11 ?a12 ?l12 ?c12 ?k12 ?a13 ?l13 ?c13 ?k13 ?a14 ?l14 ?c14 ?k14 ?a15 ?l15 ?c15 ?k15 ?a16 ?l16 ?c16 ?k16 ?a17 ?l17 ?c17 ?k17 ?z_len ?z_isinstance ?z_int ?z_bool ?z_list ?z_tuple ?z_all ?z_any ?z_sum ?z_max ?z_min ?z_sorted ?z_set ?z_range ?z_enumerate ?z_zip ?z_abs ?z_str ?zM
    (case a0 => k_is)
    (case l0 => k_is)
    (case c0 => k_is)
    (case k0 => k_is)
    (case a1 => k_is)
    (case l1 => k_is)
    (case c1 => k_is)
    (case k1 => k_is)
    (case a2 => k_is)
    (case l2 => k_is)
    (case c2 => k_is)
    (case k2 => k_is)
    (case a3 => k_is)
    (case l3 => k_is)
    (case c3 => k_is)
    (case k3 => k_is)
    (case a4 => k_is)
    (case l4 => k_is)
    (case c4 => k_is)
    (case k4 => k_is)
    (case a5 => k_is)
    (case l5 => k_is)
    (case c5 => k_is)
    (case k5 => k_is)
    (case a6 => k_is)
    (case l6 => k_is)
    (case c6 => k_is)
    (case k6 => k_is)
    (case a7 => k_is)
    (case l7 => k_is)
    (case c7 => k_is)
    (case k7 => k_is)
    (case a8 => k_is)
    (case l8 => k_is)
    (case c8 => k_is)
    (case k8 => k_is)
    (case a9 => k_is)
    (case l9 => k_is)
    (case c9 => k_is)
    (case k9 => k_is)
    (case a10 => k_is)
    (case l10 => k_is)
    (case c10 => k_is)
    (case k10 => k_is)
    (case a11 => k_is)
    (case l11 => k_is)
    (case c11 => k_is)
    (case k11 => k_is)
    (case a12 => k_is)
    (case l12 => k_is)
    (case c12 => k_is)
    (case k12 => k_is)
    (case a13 => k_is)
    (case l13 => k_is)
    (case c13 => k_is)
    (case k13 => k_is)
    (case a14 => k_is)
    (case l14 => k_is)
    (case c14 => k_is)
    (case k14 => k_is)
    (case a15 => k_is)
    (case l15 => k_is)
    (case c15 => k_is)
    (case k15 => k_is)
    (case a16 => k_is)
    (case l16 => k_is)
    (case c16 => k_is)
    (case k16 => k_is)
    (case a17 => k_is)
    (case l17 => k_is)
    (case c17 => k_is)
    (case k17 => k_is)
    (case z_len => k_is)
    (case z_isinstance => k_is)
    (case z_int => k_is)
    (case z_bool => k_is)
    (case z_list => k_is)
    (case z_tuple => k_is)
    (case z_all => k_is)
    (case z_any => k_is)
    (case z_sum => k_is)
    (case z_max => k_is)
    (case z_min => k_is)
    (case z_sorted => k_is)
    (case z_set => k_is)
    (case z_range => k_is)
    (case z_enumerate => k_is)
    (case z_zip => k_is)
    (case z_abs => k_is)
    (case z_str => k_is)
    (case zM => k_is)

end
#print axioms PySem.Challenge.cw_eitherdoes_k04_whole_rings_holds
