import PyProof.Rows.All
import Wide.All
import OpenK.AllK
import Wide.FinOn
import HandS.ForMost
import HandS.Evl
import HandS.Walk
import HandS.IsInst
import HandS.Style
import HandS.Wide
import HandS.SortInts
import HandS.More
import HandS.EndBits
import HandS.Deep
import HandS.Conv
import HandS.Lambda
import HandS.Nested
import HandS.Strs
import HandS.SetFor
import HandS.Steps
import HandS.Exc
import HandS.ExcOwn
import HandS.ExcIs
import HandS.ExcCtx
import HandS.CallLocal
import HandS.WordsExc
import HandS.TupMul
import HandS.HotCalls
import HandS.Comp
import HandS.EndTab
import PySem.Challenge.RW_eitherdoes_k10_promises_by_hand
set_option Elab.async false
section
set_option Elab.async false
set_option linter.all false
set_option maxRecDepth 100000
set_option maxHeartbeats 2000000
namespace IL
open PySem L2

/-! ### the plain machine: values, objects, a store -/
inductive Va where
  | non | bl (b : Bool) | int (i : Int) | str (s : Str) | ty (n : String) | gl (n : Str) | ref (n : Nat) | scr (ns : List Int) | exc (c : Str)
  /-- the very great number of a law, or its opposite -/
  | big (n : Bool)
  deriving DecidableEq
inductive Ob where
  | lst (xs : List Va) | tup (xs : List Va) | dic (es : List (Int × Va)) | obj (c : Str) (fs : List (Str × Va)) | hid
  /-- a lambda: its number; what its captured names hold (none: made in this frame) -/
  | clo (i : Nat) (vs : Option (List (Option Va)))
  deriving DecidableEq
abbrev Sto := List Ob
abbrev Env := List (Option Va)
inductive R (α : Type) where
  | ok (a : α) (S : Sto) | ex (c : Str) (S : Sto) | no
def R.bind {α β : Type} (r : R α) (k : α → Sto → R β) : R β := match r with
  | .ok a S => k a S
  | .ex c S => .ex c S
  | .no => .no
@[simp] theorem R.bind_ok {α β : Type} {a : α} {S : Sto} {k : α → Sto → R β} : (R.ok a S).bind k = k a S := rfl
@[simp] theorem R.bind_ex {α β : Type} {c : Str} {S : Sto} {k : α → Sto → R β} : (R.ex c S).bind k = .ex c S := rfl
@[simp] theorem R.bind_no {α β : Type} {k : α → Sto → R β} : (R.no).bind k = .no := rfl
/-- what stands behind a statement -/
inductive O where
  | nx (ρ : Env) (S : Sto) | rt (v : Va) (S : Sto) | ex (c : Str) (ρ : Env) (S : Sto) | no
abbrev IE := Env → Sto → R Va
abbrev IT := Env → Sto → R Bool
abbrev IA := Env → Sto → R (List Va)
abbrev IS := Env → Sto → O
abbrev Fn := List Va → Sto → R Va

/-! ### pairs of lists -/
section
variable {α β : Type} {F : α → β → Prop}
theorem Paired.get : ∀ {xs : List α} {us : List β} {i : Nat} {x : α}, Paired F xs us → xs[i]? = some x → ∃ u, us[i]? = some u ∧ F x u
  | _, _, _, _, .nil, e => by simp at e
  | _, _, 0, _, .cons r _, e => by simp at e; subst e; exact ⟨_, rfl, r⟩
  | _, _, i + 1, x, .cons _ t, e => by
    obtain ⟨u, h1, h2⟩ := Paired.get (i := i) (x := x) t (by simpa using e)
    exact ⟨u, by simpa using h1, h2⟩
theorem Paired.len : ∀ {xs : List α} {us : List β}, Paired F xs us → xs.length = us.length
  | _, _, .nil => rfl
  | _, _, .cons _ t => by simp [Paired.len t]
theorem Paired.set {x : α} {u : β} (r : F x u) : ∀ {xs : List α} {us : List β} (i : Nat), Paired F xs us → Paired F (xs.set i x) (us.set i u)
  | _, _, _, .nil => .nil
  | _, _, 0, .cons _ t => .cons r t
  | _, _, i + 1, .cons q t => .cons q (Paired.set r i t)
theorem Paired.append : ∀ {xs ys : List α} {us ws : List β}, Paired F xs us → Paired F ys ws → Paired F (xs ++ ys) (us ++ ws)
  | _, _, _, _, .nil, s => s
  | _, _, _, _, .cons r t, s => .cons r (Paired.append t s)
theorem Paired.take : ∀ {xs : List α} {us : List β} (n : Nat), Paired F xs us → Paired F (xs.take n) (us.take n)
  | _, _, 0, _ => .nil
  | _, _, _ + 1, .nil => .nil
  | _, _, n + 1, .cons r t => .cons r (Paired.take n t)
theorem Paired.drop : ∀ {xs : List α} {us : List β} (n : Nat), Paired F xs us → Paired F (xs.drop n) (us.drop n)
  | _, _, 0, r => r
  | _, _, _ + 1, .nil => .nil
  | _, _, n + 1, .cons _ t => Paired.drop n t
theorem Paired.reverse : ∀ {xs : List α} {us : List β}, Paired F xs us → Paired F xs.reverse us.reverse
  | _, _, .nil => .nil
  | _, _, .cons r t => by
    rw [List.reverse_cons, List.reverse_cons]
    exact Paired.append (Paired.reverse t) (.cons r .nil)
theorem Paired.rep {xs : List α} {us : List β} (h : Paired F xs us) : ∀ k : Nat, Paired F (List.replicate k xs).flatten (List.replicate k us).flatten
  | 0 => .nil
  | k + 1 => by
    rw [List.replicate_succ, List.replicate_succ, List.flatten_cons, List.flatten_cons]
    exact Paired.append h (Paired.rep h k)
theorem Paired.imp {G : α → β → Prop} (f : ∀ a b, F a b → G a b) : ∀ {xs : List α} {us : List β}, Paired F xs us → Paired G xs us
  | _, _, .nil => .nil
  | _, _, .cons r t => .cons (f _ _ r) (Paired.imp f t)
theorem Paired.atI {xs : List α} {us : List β} {i : Int} {x : α} (r : Paired F xs us) (h : L2.atI xs i = some x) : ∃ u, L2.atI us i = some u ∧ F x u := by
  unfold L2.atI at h ⊢
  rw [← Paired.len r]
  cases e : ixN xs.length i with
  | none => rw [e] at h; cases h
  | some k => rw [e] at h; exact Paired.get r h
end

/-! ### the tie to the abstract heap -/
/-- a lambda of the text -/
structure LI where
  qual : Str
  params : Arguments
  body : Expr
  scope : Scope
  /-- the captured names -/
  fr : List Str
abbrev LI.fd (i : LI) (cl : List (Str × Addr)) (c : Addr) (pm ctv : Value) : FuncData := PySem.W.kla_fn "<lambda>" i.qual i.params i.body i.scope cl pm (.ref c) ctv
/-- its object at f -/
def FnL (f : Addr) (i : LI) (cl : List (Str × Addr)) (c : Addr) : HO := .ext fun h => ∃ (od : Option Addr) (sl : Array (Option Value)) (pm ctv : Value), h.get? f = some (⟨.type "function", od, .func (i.fd cl c pm ctv), sl⟩ : Obj)
structure Gm where
  γ : Str → Addr
  K : PySem.W.Frag
  a0 : Addr
  ns : List Int
  /-- whether the script stands fast -/
  hs : Prop
  /-- the error that is handled, its class -/
  ea : Option (Addr × Str)
  /-- the tables of code objects -/
  T : List (Addr × Str)
  lam : Nat → LI
  /-- the own frame's cells -/
  own : Option (List (Str × Addr))
  /-- what cells are known to hold -/
  cb : List (Str × Addr) → List Str → List (Option V) → Prop
def Le (ι ι' : List Addr) : Prop := ∀ (n : Nat) (a : Addr), ι[n]? = some a → ι'[n]? = some a
theorem Le.refl (ι : List Addr) : Le ι ι := fun _ _ h => h
theorem Le.trans {ι ι1 ι2 : List Addr} (a : Le ι ι1) (b : Le ι1 ι2) : Le ι ι2 := fun n x h => b n x (a n x h)
theorem Le.snoc (ι : List Addr) (p : Addr) : Le ι (ι ++ [p]) := fun n a h => by
  rw [List.getElem?_append_left (List.getElem?_eq_some_iff.mp h).1]; exact h
/-- a very great number that a law makes of its script -/
def farOf (ns : List Int) : Int := 10 ^ 30 + ((ns.take 2).sum.natAbs : Int)
def farB : Bool → List Int → Int
  | false, ns => farOf ns
  | true, ns => -farOf ns
def VR (g : Gm) (ι : List Addr) : Va → V → Prop
  | .non, v => v = .non
  | .bl b, v => v = .bl b
  | .int i, v => v = .int i
  | .str s, v => v = .str s
  | .ty n, v => v = .ty n
  | .gl n, v => v = .ref (g.γ n)
  | .ref n, v => ∃ a, ι[n]? = some a ∧ v = .ref a
  | .scr ns, v => v = .ref g.a0 ∧ ns = g.ns ∧ g.hs
  | .exc c, v => ∃ a, g.ea = some (a, c) ∧ v = .ref a
  | .big n, v => v = .int (farB n g.ns)
abbrev VRs (g : Gm) (ι : List Addr) : List Va → List V → Prop := Paired (VR g ι)
def KR (g : Gm) (ι : List Addr) (e : Int × Va) (kv : Key × V) : Prop := kv.1 = .inl e.1 ∧ VR g ι e.2 kv.2
def FR (g : Gm) (ι : List Addr) (e : Str × Va) (kv : Str × V) : Prop := kv.1 = e.1 ∧ VR g ι e.2 kv.2
section
variable {g : Gm} {ι ι' : List Addr}
theorem VR.mono (le : Le ι ι') {x : Va} {v : V} (h : VR g ι x v) : VR g ι' x v := by
  cases x with
  | ref n => obtain ⟨a, h1, h2⟩ := h; exact ⟨a, le n a h1, h2⟩
  | _ => exact h
theorem VRs.mono (le : Le ι ι') {x : List Va} {v : List V} (h : VRs g ι x v) : VRs g ι' x v := Paired.imp (fun _ _ => VR.mono le) h
structure CapR (g : Gm) (ι : List Addr) (xs : List (Option Va)) (ws : List (Option V)) : Prop where
  len : xs.length = ws.length
  at_ : ∀ (i : Nat) (x : Va), xs[i]? = some (some x) → ∃ v, ws[i]? = some (some v) ∧ VR g ι x v
theorem CapR.mono {xs : List (Option Va)} {ws : List (Option V)} (le : Le ι ι') (h : CapR g ι xs ws) : CapR g ι' xs ws := ⟨h.len, fun i x e => let ⟨v, h1, h2⟩ := h.at_ i x e; ⟨v, h1, h2.mono le⟩⟩
def CloR (g : Gm) (ι : List Addr) (i : Nat) (cl : List (Str × Addr)) : Option (List (Option Va)) → Prop
  | none => ∃ cells, g.own = some cells ∧ cl = cloFrom cells (g.lam i).scope.names []
  | some xs => ∃ ws, CapR g ι xs ws ∧ g.cb cl (g.lam i).fr ws
theorem CloR.mono {i : Nat} {cl : List (Str × Addr)} {vs : Option (List (Option Va))} (le : Le ι ι') (h : CloR g ι i cl vs) : CloR g ι' i cl vs := by
  cases vs with
  | none => exact h
  | some xs => obtain ⟨ws, h1, h2⟩ := h; exact ⟨ws, h1.mono le, h2⟩
def ObR (g : Gm) (ι : List Addr) (H : Hp) (a : Addr) : Ob → Prop
  | .clo i vs => ∃ c cl, H a = some (FnL a (g.lam i) cl c) ∧ H c = some (LamX.CodeO c (g.lam i).qual) ∧ CloR g ι i cl vs
  | .lst xs => ∃ vs, H a = some (.lst vs) ∧ VRs g ι xs vs
  | .tup xs => ∃ vs, H a = some (.tup vs) ∧ VRs g ι xs vs
  | .dic es => ∃ kvs, H a = some (.dK kvs) ∧ Paired (KR g ι) es kvs
  | .obj c fs => ∃ dx vs, H a = some (.ins (g.γ c) dx vs) ∧ Paired (FR g ι) fs vs
  | .hid => H a ≠ none
/-- what is frozen, a lambda, a code object stays -/
structure Frz (H H' : Hp) : Prop where
  fz : ∀ b o u, H b = some (.frz o u) → H' b = some (.frz o u)
  ex : ∀ b φ, H b = some (.ext φ) → H' b = some (.ext φ)
theorem Frz.refl (H : Hp) : Frz H H := ⟨fun _ _ _ h => h, fun _ _ h => h⟩
theorem Frz.trans {H H1 H2 : Hp} (a : Frz H H1) (b : Frz H1 H2) : Frz H H2 := ⟨fun c o u h => b.fz c o u (a.fz c o u h), fun c φ h => b.ex c φ (a.ex c φ h)⟩
/-- what may be written -/
structure Soft (H : Hp) (p : Addr) : Prop where
  fz : ∀ ob u, H p ≠ some (.frz ob u)
  ex : ∀ φ, H p ≠ some (.ext φ)
  tb : ∀ ps, H p ≠ some (.tbl ps)
theorem Soft.none {H : Hp} {p : Addr} (h : H p = Option.none) : Soft H p := ⟨fun ob u z => (by rw [h] at z; cases z), fun φ z => (by rw [h] at z; cases z), fun ps z => (by rw [h] at z; cases z)⟩
def softO : HO → Bool
  | .frz _ _ => false
  | .ext _ => false
  | .tbl _ => false
  | _ => true
theorem Soft.of {H : Hp} {p : Addr} {o : HO} (h : H p = some o) (ho : softO o = true) : Soft H p := ⟨fun ob u z => (by rw [h] at z; cases z; cases ho), fun φ z => (by rw [h] at z; cases z; cases ho), fun ps z => (by rw [h] at z; cases z; cases ho)⟩
theorem Frz.upd {H : Hp} {p : Addr} {o : HO} (h : Soft H p) : Frz H (upd H p o) := ⟨fun b ob u e => by
  rw [upd_ne (fun z => by subst z; exact h.fz ob u e)]; exact e, fun b φ e => by
  rw [upd_ne (fun z => by subst z; exact h.ex φ e)]; exact e⟩
theorem tabs_upd {T : List (Addr × Str)} {H : Hp} {p : Addr} {o : HO} (hx : ∀ φ, H p ≠ some (.ext φ)) (ht : ∀ ps, H p ≠ some (.tbl ps)) (t : LamX.Tabs T H) : LamX.Tabs T (upd H p o) := fun q hq => by
  obtain ⟨ps, h1, h2, h3⟩ := t q hq
  have n1 : q.1 ≠ p := fun z => ht ps (by rw [← z]; exact h1)
  refine ⟨ps, by rw [upd_ne n1]; exact h1, h2, fun pos cv hc => ?_⟩
  obtain ⟨c, e1, e2⟩ := h3 pos cv hc
  have n2 : c ≠ p := fun z => hx _ (by rw [← z]; exact e2)
  exact ⟨c, e1, by rw [upd_ne n2]; exact e2⟩
structure Sim (g : Gm) (ι : List Addr) (S : Sto) (H : Hp) : Prop where
  nd : ι.Nodup
  len : ι.length = S.length
  ob : ∀ (n : Nat) (o : Ob) (a : Addr), S[n]? = some o → ι[n]? = some a → ObR g ι H a o
  sc : ∀ H', Frz H H' → g.hs → SqL g.K H' g.a0 (g.ns.map V.int)
  tb : LamX.Tabs g.T H
theorem ObR.mono {H : Hp} {a : Addr} {o : Ob} (le : Le ι ι') (h : ObR g ι H a o) : ObR g ι' H a o := by
  cases o with
  | lst xs => obtain ⟨vs, h1, h2⟩ := h; exact ⟨vs, h1, h2.mono le⟩
  | tup xs => obtain ⟨vs, h1, h2⟩ := h; exact ⟨vs, h1, h2.mono le⟩
  | dic es => obtain ⟨vs, h1, h2⟩ := h; exact ⟨vs, h1, Paired.imp (fun _ _ q => ⟨q.1, q.2.mono le⟩) h2⟩
  | obj c fs => obtain ⟨dx, vs, h1, h2⟩ := h; exact ⟨dx, vs, h1, Paired.imp (fun _ _ q => ⟨q.1, q.2.mono le⟩) h2⟩
  | hid => exact h
  | clo i vs => obtain ⟨c, cl, h1, h2, h3⟩ := h; exact ⟨c, cl, h1, h2, h3.mono le⟩
theorem ObR.heap {H H' : Hp} {a : Addr} {o : Ob} (e : H' a = H a) (fz : ∀ b φ, H b = some (.ext φ) → H' b = some (.ext φ)) (h : ObR g ι H a o) : ObR g ι H' a o := by
  cases o with
  | clo i vs => obtain ⟨c, cl, h1, h2, h3⟩ := h; exact ⟨c, cl, by rw [e]; exact h1, fz _ _ h2, h3⟩
  | _ => simp only [ObR, e] at h ⊢ <;> exact h
theorem ObR.there {H : Hp} {a : Addr} {o : Ob} (h : ObR g ι H a o) : H a ≠ none := by
  cases o with
  | lst xs => obtain ⟨vs, h1, h2⟩ := h; rw [h1]; intro z; cases z
  | tup xs => obtain ⟨vs, h1, h2⟩ := h; rw [h1]; intro z; cases z
  | dic es => obtain ⟨vs, h1, h2⟩ := h; rw [h1]; intro z; cases z
  | obj c fs => obtain ⟨dx, vs, h1, h2⟩ := h; rw [h1]; intro z; cases z
  | hid => exact h
  | clo i vs => obtain ⟨c, cl, h1, h2, h3⟩ := h; rw [h1]; intro z; cases z
variable {S : Sto} {H : Hp}
theorem Sim.at_ (s : Sim g ι S H) {n : Nat} {o : Ob} (e : S[n]? = some o) : ∃ a, ι[n]? = some a ∧ ObR g ι H a o := by
  have h : n < ι.length := by rw [s.len]; exact (List.getElem?_eq_some_iff.mp e).1
  exact ⟨ι[n], by simp [h], s.ob n o _ e (by simp [h])⟩
theorem Sim.ref {n : Nat} {o : Ob} {v : V} (s : Sim g ι S H) (e : S[n]? = some o) (h : VR g ι (.ref n) v) : ∃ a, v = .ref a ∧ ι[n]? = some a ∧ ObR g ι H a o := by
  obtain ⟨a, h1, h2⟩ := h
  exact ⟨a, h2, h1, s.ob n o a e h1⟩
theorem Sim.scr (s : Sim g ι S H) (z : g.hs) : SqL g.K H g.a0 (g.ns.map V.int) := s.sc H (Frz.refl H) z
theorem Sim.fresh (s : Sim g ι S H) {p : Addr} (h : H p = none) : p ∉ ι := fun hp => by
  obtain ⟨n, hn⟩ := List.mem_iff_getElem?.mp hp
  have : n < S.length := by rw [← s.len]; exact (List.getElem?_eq_some_iff.mp hn).1
  exact (s.ob n S[n] p (by simp [this]) hn).there h
/-- a new name -/
theorem Sim.join (s : Sim g ι S H) {p : Addr} {o : Ob} {u : HO} (hp : p ∉ ι) (hf : Soft H p) (h : ObR g (ι ++ [p]) (upd H p u) p o) : Sim g (ι ++ [p]) (S ++ [o]) (upd H p u) := by
  refine ⟨?_, by simp [s.len], fun n o' a e1 e2 => ?_, fun H' f => s.sc H' ((Frz.upd hf).trans f), tabs_upd hf.ex hf.tb s.tb⟩
  · rw [List.nodup_append]
    exact ⟨s.nd, by simp, fun a ha b hb => by rw [List.mem_singleton] at hb; rintro rfl; exact hp (hb ▸ ha)⟩
  · by_cases hn : n < S.length
    · rw [List.getElem?_append_left hn] at e1
      rw [List.getElem?_append_left (by rw [s.len]; exact hn)] at e2
      refine ((s.ob n o' a e1 e2).mono (Le.snoc ι p)).heap (upd_ne fun z => ?_) (Frz.upd hf).ex
      exact hp (z ▸ List.mem_of_getElem? e2)
    · have hl : n = S.length := by
        have := (List.getElem?_eq_some_iff.mp e1).1
        simp at this; omega
      subst hl
      rw [List.getElem?_concat_length] at e1
      rw [← s.len, List.getElem?_concat_length] at e2
      cases e1; cases e2
      exact h
/-- a new object -/
theorem Sim.alloc (s : Sim g ι S H) {p : Addr} {o : Ob} {u : HO} (hp : H p = none) (h : ObR g (ι ++ [p]) (upd H p u) p o) : Sim g (ι ++ [p]) (S ++ [o]) (upd H p u) :=
  s.join (s.fresh hp) (.none hp) h
theorem Sim.lst (s : Sim g ι S H) {p : Addr} {xs : List Va} {vs : List V} (hp : H p = none) (h : VRs g ι xs vs) : Sim g (ι ++ [p]) (S ++ [.lst xs]) (upd H p (.lst vs)) :=
  s.alloc hp ⟨vs, upd_same, h.mono (Le.snoc ι p)⟩
theorem Sim.tup (s : Sim g ι S H) {p : Addr} {xs : List Va} {vs : List V} (hp : H p = none) (h : VRs g ι xs vs) : Sim g (ι ++ [p]) (S ++ [.tup xs]) (upd H p (.tup vs)) :=
  s.alloc hp ⟨vs, upd_same, h.mono (Le.snoc ι p)⟩
theorem Sim.newRef (s : Sim g ι S H) {p : Addr} : VR g (ι ++ [p]) (.ref S.length) (.ref p) := ⟨p, by rw [← s.len, List.getElem?_concat_length], rfl⟩
/-- an object that no index names -/
theorem Sim.more (s : Sim g ι S H) {p : Addr} {u : HO} (hp : H p = none) : Sim g ι S (upd H p u) :=
  ⟨s.nd, s.len, fun n o a e1 e2 => (s.ob n o a e1 e2).heap (upd_ne fun z => s.fresh hp (z ▸ List.mem_of_getElem? e2)) (Frz.upd (.none hp)).ex, fun H' f => s.sc H' ((Frz.upd (.none hp)).trans f), tabs_upd (Soft.none hp).ex (Soft.none hp).tb s.tb⟩
/-- .. changed -/
theorem Sim.other (s : Sim g ι S H) {p : Addr} {u : HO} (hp : p ∉ ι) (hf : Soft H p) : Sim g ι S (upd H p u) :=
  ⟨s.nd, s.len, fun n o a e1 e2 => (s.ob n o a e1 e2).heap (upd_ne fun z => hp (z ▸ List.mem_of_getElem? e2)) (Frz.upd hf).ex, fun H' f => s.sc H' ((Frz.upd hf).trans f), tabs_upd hf.ex hf.tb s.tb⟩
/-- an object changed -/
theorem Sim.put (s : Sim g ι S H) {n : Nat} {a : Addr} {o : Ob} {u : HO} (e : ι[n]? = some a) (hf : Soft H a) (h : ObR g ι (upd H a u) a o) : Sim g ι (S.set n o) (upd H a u) := by
  refine ⟨s.nd, by simp [s.len], fun m o' b e1 e2 => ?_, fun H' f => s.sc H' ((Frz.upd hf).trans f), tabs_upd hf.ex hf.tb s.tb⟩
  by_cases hm : n = m
  · subst hm
    rw [e] at e2; cases e2
    have hn : n < S.length := by rw [← s.len]; exact (List.getElem?_eq_some_iff.mp e).1
    rw [List.getElem?_set_self hn] at e1
    cases e1
    exact h
  · rw [List.getElem?_set_ne hm] at e1
    refine (s.ob m o' b e1 e2).heap (upd_ne fun z => hm ?_) (Frz.upd hf).ex
    subst z
    obtain ⟨h1, e1'⟩ := List.getElem?_eq_some_iff.mp e
    obtain ⟨h2, e2'⟩ := List.getElem?_eq_some_iff.mp e2
    exact (List.getElem_inj s.nd).mp (e1'.trans e2'.symm)
/-- slots -/
structure ER (g : Gm) (ι : List Addr) (ρ : Env) (σ : St) : Prop where
  len : ρ.length = σ.length
  at_ : ∀ (i : Nat) (x : Va), ρ[i]? = some (some x) → ∃ v, σ[i]? = some (some v) ∧ VR g ι x v
theorem ER.mono {ρ : Env} {σ : St} (le : Le ι ι') (h : ER g ι ρ σ) : ER g ι' ρ σ := ⟨h.len, fun i x e => let ⟨v, h1, h2⟩ := h.at_ i x e; ⟨v, h1, h2.mono le⟩⟩
theorem ER.set {ρ : Env} {σ : St} {x : Va} {v : V} (h : ER g ι ρ σ) (i : Nat) (r : VR g ι x v) : ER g ι (ρ.set i (some x)) (σ.set i (some v)) := by
  refine ⟨by simp [h.len], fun j y e => ?_⟩
  by_cases hj : i = j
  · subst hj
    have hi : i < ρ.length := by
      have := (List.getElem?_eq_some_iff.mp e).1
      simpa using this
    rw [List.getElem?_set_self hi] at e
    cases e
    exact ⟨v, by rw [List.getElem?_set_self (by rw [← h.len]; exact hi)], r⟩
  · rw [List.getElem?_set_ne hj] at e ⊢
    exact h.at_ j y e
theorem ER.unset {ρ : Env} {σ : St} {o : Option V} (h : ER g ι ρ σ) (i : Nat) : ER g ι (ρ.set i none) (σ.set i o) := by
  refine ⟨by simp [h.len], fun j y e => ?_⟩
  by_cases hj : i = j
  · subst hj
    have hi : i < ρ.length := by
      have := (List.getElem?_eq_some_iff.mp e).1
      simpa using this
    rw [List.getElem?_set_self hi] at e
    cases e
  · rw [List.getElem?_set_ne hj] at e ⊢
    exact h.at_ j y e

/-! ### what is wanted behind a run of the plain machine -/
/-- the indices grow; what they do not name stays and stays unnamed -/
structure Ext (ι : List Addr) (H : Hp) (ι' : List Addr) (H' : Hp) : Prop where
  le : Le ι ι'
  fr : ∀ a, a ∉ ι → H a ≠ none → (∀ ps, H a ≠ some (.tbl ps)) → a ∉ ι' ∧ H' a = H a
  fz : Frz H H'
theorem Ext.refl (ι : List Addr) (H : Hp) : Ext ι H ι H := ⟨Le.refl _, fun _ h _ _ => ⟨h, rfl⟩, Frz.refl _⟩
theorem Ext.trans {ι ι1 ι2 : List Addr} {H H1 H2 : Hp} (a : Ext ι H ι1 H1) (b : Ext ι1 H1 ι2 H2) : Ext ι H ι2 H2 := ⟨a.le.trans b.le, fun x h1 h2 h3 => by
  obtain ⟨p, q⟩ := a.fr x h1 h2 h3
  obtain ⟨p', q'⟩ := b.fr x p (by rw [q]; exact h2) (by rw [q]; exact h3)
  exact ⟨p', q'.trans q⟩, a.fz.trans b.fz⟩
theorem Frz.new {H : Hp} {p : Addr} {u : HO} (hp : H p = none) : Frz H (L2.upd H p u) := Frz.upd (.none hp)
theorem Ext.snoc {ι : List Addr} {H : Hp} {p : Addr} {u : HO} (hp : H p = none) : Ext ι H (ι ++ [p]) (upd H p u) := ⟨Le.snoc ι p, fun a h1 h2 _ => by
  have hap : a ≠ p := fun z => h2 (z ▸ hp)
  exact ⟨fun z => (List.mem_append.mp z).elim h1 fun z => hap (List.mem_singleton.mp z), upd_ne hap⟩, Frz.new hp⟩
theorem Ext.put {ι : List Addr} {H : Hp} {n : Nat} {p : Addr} {u : HO} (e : ι[n]? = some p) (hf : Soft H p) : Ext ι H ι (upd H p u) := ⟨Le.refl _, fun a h1 h2 _ => ⟨h1, upd_ne fun z => h1 (z ▸ List.mem_of_getElem? e)⟩, Frz.upd hf⟩
theorem Ext.new {ι : List Addr} {H : Hp} {p : Addr} {u : HO} (hp : H p = none) : Ext ι H ι (upd H p u) := ⟨Le.refl _, fun a h1 h2 _ => ⟨h1, upd_ne fun z => h2 (z ▸ hp)⟩, Frz.new hp⟩
def P {α : Type} (g : Gm) (ι : List Addr) (H : Hp) (W : Str → Hp → Prop) (T : α → List Addr → Hp → Prop) : R α → Prop
  | .ok x S' => ∀ ι' H', Ext ι H ι' H' → Sim g ι' S' H' → T x ι' H'
  | .ex c S' => ∀ ι' H', Ext ι H ι' H' → Sim g ι' S' H' → W c H'
  | .no => False
variable {α β : Type} {W : Str → Hp → Prop} {T : β → List Addr → Hp → Prop} {H' : Hp}
theorem P.le {r : R β} (le : Ext ι H ι' H') (h : P g ι H W T r) : P g ι' H' W T r := by
  cases r with
  | ok x S' => exact fun ι2 H2 l s => h ι2 H2 (le.trans l) s
  | ex c S' => exact fun ι2 H2 l s => h ι2 H2 (le.trans l) s
  | no => exact h
theorem P.mono {r : R β} {T' : β → List Addr → Hp → Prop} (h : P g ι H W T r) (f : ∀ x ι' H', Ext ι H ι' H' → T x ι' H' → T' x ι' H') : P g ι H W T' r := by
  cases r with
  | ok x S' => exact fun ι2 H2 l s => f x ι2 H2 l (h ι2 H2 l s)
  | ex c S' => exact h
  | no => exact h
theorem P.bind {r : R α} {k : α → Sto → R β} (h : P g ι H W T (r.bind k)) : P g ι H W (fun x ι' H' => ∃ S', Sim g ι' S' H' ∧ P g ι' H' W T (k x S')) r := by
  cases r with
  | ok x S' => exact fun ι2 H2 l s => ⟨S', s, P.le l h⟩
  | ex c S' => exact h
  | no => exact h
/-- a run from a later state, then more, the first state's wish kept -/
theorem P.thenB {ι0 : List Addr} {H0 : Hp} {r : R α} {k : α → Sto → R β} {T' : α → List Addr → Hp → Prop} (e0 : Ext ι H ι0 H0) (h : P g ι H W T (r.bind k)) (f : ∀ x ι' S' H', Ext ι0 H0 ι' H' → Sim g ι' S' H' → P g ι H W T (k x S') → T' x ι' H') : P g ι0 H0 W T' r := by
  cases r with
  | ok x S' => exact fun ι2 H2 l s => f x ι2 S' H2 l s h
  | ex c S' => exact fun ι2 H2 l s => h ι2 H2 (e0.trans l) s
  | no => exact h
/-- an object joins at the end -/
theorem Ext.join {ι ι2 : List Addr} {H H2 : Hp} {p : Addr} {u v : HO} (hp : H p = none) (e : Ext ι (upd H p u) ι2 H2) : Ext ι H (ι2 ++ [p]) (upd H2 p v) := ⟨e.le.trans (Le.snoc _ _), fun a h1 h2 h3 => by
  have hap : a ≠ p := fun z => h2 (z ▸ hp)
  obtain ⟨x, y⟩ := e.fr a h1 (by rw [upd_ne hap]; exact h2) (by rw [upd_ne hap]; exact h3)
  rw [upd_ne hap] at y ⊢
  exact ⟨fun z => (List.mem_append.mp z).elim x fun z => hap (List.mem_singleton.mp z), y⟩, fun b ob w hb => by
  have hbp : b ≠ p := fun z => by rw [z, hp] at hb; cases hb
  rw [upd_ne hbp]
  exact e.fz.fz b ob w (by rw [upd_ne hbp]; exact hb), fun b φ hb => by
  have hbp : b ≠ p := fun z => by rw [z, hp] at hb; cases hb
  rw [upd_ne hbp]
  exact e.fz.ex b φ (by rw [upd_ne hbp]; exact hb)⟩
/-- a run, then more -/
theorem P.then {r : R α} {k : α → Sto → R β} {T' : α → List Addr → Hp → Prop} (h : P g ι H W T (r.bind k)) (f : ∀ x ι' S' H', Ext ι H ι' H' → Sim g ι' S' H' → P g ι' H' W T (k x S') → T' x ι' H') : P g ι H W T' r :=
  h.bind.mono fun x ι' H' l ⟨S', s, q⟩ => f x ι' S' H' l s q
end

abbrev WH := Str → St → Hp → Prop
/-- no exception is wished for -/
def W0 : WH := fun _ _ _ => False
def SdE (g : Gm) (W : WH) (t : TE) (i : IE) : Prop := ∀ ι ρ S σ H (Q : VK), Sim g ι S H → ER g ι ρ σ → P g ι H (W · σ) (fun x ι' H' => ∀ v, VR g ι' x v → Q v H') (i ρ S) → t σ H Q
def SdT (g : Gm) (W : WH) (t : TT) (i : IT) : Prop := ∀ ι ρ S σ H (Q : Bool → Hp → Prop), Sim g ι S H → ER g ι ρ σ → P g ι H (W · σ) (fun b _ H' => Q b H') (i ρ S) → t σ H Q
def SdA (g : Gm) (W : WH) (t : TA) (i : IA) : Prop := ∀ ι ρ S σ H (Q : List V → Hp → Prop), Sim g ι S H → ER g ι ρ σ → P g ι H (W · σ) (fun x ι' H' => ∀ v, VRs g ι' x v → Q v H') (i ρ S) → t σ H Q
def SdR (g : Gm) (W : WH) (r : R2) (f : Va → Va → Sto → R Va) : Prop := ∀ ι S H x y v u σ (Q : VK), Sim g ι S H → VR g ι x v → VR g ι y u → P g ι H (W · σ) (fun x ι' H' => ∀ v, VR g ι' x v → Q v H') (f x y S) → r v u H Q
def SdC (g : Gm) (W : WH) (r : List V → Hp → VK → Prop) (f : List Va → Sto → R Va) : Prop := ∀ ι S H xs vs σ (Q : VK), Sim g ι S H → VRs g ι xs vs → P g ι H (W · σ) (fun x ι' H' => ∀ v, VR g ι' x v → Q v H') (f xs S) → r vs H Q
def SdM (g : Gm) (W : WH) (r : V → List V → Hp → VK → Prop) (f : Va → List Va → Sto → R Va) : Prop := ∀ ι S H x v xs vs σ (Q : VK), Sim g ι S H → VR g ι x v → VRs g ι xs vs → P g ι H (W · σ) (fun x ι' H' => ∀ v, VR g ι' x v → Q v H') (f x xs S) → r v vs H Q

/-! ### expressions -/
def iVar (i : Nat) : IE := fun ρ S => match ρ[i]? with
  | some (some v) => .ok v S
  | _ => .no
def iC (v : Va) : IE := fun _ S => .ok v S
def iOp (f : Va → Va → Sto → R Va) (a b : IE) : IE := fun ρ S => (a ρ S).bind fun x S1 => (b ρ S1).bind fun y S2 => f x y S2
def iUn (f : Va → Sto → R Va) (a : IE) : IE := fun ρ S => (a ρ S).bind fun x S1 => f x S1
def iNil : IA := fun _ S => .ok [] S
def iCons (a : IE) (r : IA) : IA := fun ρ S => (a ρ S).bind fun x S1 => (r ρ S1).bind fun xs S2 => .ok (x :: xs) S2
def iLst (a : IA) : IE := fun ρ S => (a ρ S).bind fun xs S1 => .ok (.ref S1.length) (S1 ++ [.lst xs])
def iTup (a : IA) : IE := fun ρ S => (a ρ S).bind fun xs S1 => .ok (.ref S1.length) (S1 ++ [.tup xs])
def iCB (f : List Va → Sto → R Va) (a : IA) : IE := fun ρ S => (a ρ S).bind fun xs S1 => f xs S1
def asB : Va → Sto → R Bool
  | .bl b, S => .ok b S
  | _, _ => .no
def iB (a : IE) : IT := fun ρ S => (a ρ S).bind asB
def iAnd (a b : IT) : IT := fun ρ S => (a ρ S).bind fun c S1 => if c = true then b ρ S1 else .ok false S1
def iOr (a b : IT) : IT := fun ρ S => (a ρ S).bind fun c S1 => if c = true then .ok true S1 else b ρ S1
def iNot (a : IT) : IT := fun ρ S => (a ρ S).bind fun c S1 => .ok (!c) S1
def iYes : IT := fun _ S => .ok true S
def iAndV (a b : IE) : IE := fun ρ S => (a ρ S).bind fun x S1 => (asB x S1).bind fun c S1 => if c = true then b ρ S1 else .ok (.bl false) S1
def iOrV (a b : IE) : IE := fun ρ S => (a ρ S).bind fun x S1 => (asB x S1).bind fun c S1 => if c = true then .ok (.bl true) S1 else b ρ S1
def iNotV (a : IE) : IE := fun ρ S => (a ρ S).bind fun x S1 => (asB x S1).bind fun c S1 => .ok (.bl (!c)) S1
def iIf (t : IT) (a b : IE) : IE := fun ρ S => (t ρ S).bind fun c S1 => if c = true then a ρ S1 else b ρ S1
def iChain (f f' : Va → Va → Sto → R Va) (a b c : IE) : IE := fun ρ S => (a ρ S).bind fun x S1 => (b ρ S1).bind fun y S2 => (f x y S2).bind fun z S3 => (asB z S3).bind fun k S3 =>
  if k = true then (c ρ S3).bind fun w S4 => f' y w S4 else .ok (.bl false) S3

section
variable {g : Gm} {W : WH} {te ta tb tc : TE} {ia ib ic : IE} {tt tu : TT} {it iu : IT}
theorem asB_inv {α : Type} {ι : List Addr} {H : Hp} {W : Str → Hp → Prop} {x : Va} {S : Sto} {T : α → List Addr → Hp → Prop} {k : Bool → Sto → R α} (h : P g ι H W T ((asB x S).bind k)) : ∃ b, x = .bl b ∧ P g ι H W T (k b S) := by
  cases x with
  | bl b => exact ⟨b, rfl, h⟩
  | _ => exact h.elim
theorem sd_var {i : Nat} : SdE g W (tVar i) (iVar i) := fun ι ρ S σ H Q s e h => by
  unfold iVar at h
  split at h
  · rename_i v hv
    obtain ⟨u, h1, h2⟩ := e.at_ i v hv
    exact ⟨u, h1, h ι H (Ext.refl _ _) s u h2⟩
  · exact h.elim
theorem sd_c {v : V} {x : Va} (hv : ∀ ι, VR g ι x v) : SdE g W (tC v) (iC x) := fun ι ρ S σ H Q s e h => h ι H (Ext.refl _ _) s v (hv ι)
theorem sd_int {i : Int} : SdE g W (tC (.int i)) (iC (.int i)) := sd_c fun _ => rfl
theorem sd_bl {i : Bool} : SdE g W (tC (.bl i)) (iC (.bl i)) := sd_c fun _ => rfl
theorem sd_str {i : Str} : SdE g W (tC (.str i)) (iC (.str i)) := sd_c fun _ => rfl
theorem sd_non : SdE g W (tC .non) (iC .non) := sd_c fun _ => rfl
theorem sd_ty {n : String} : SdE g W (tC (.ty n)) (iC (.ty n)) := sd_c fun _ => rfl
theorem sd_gl {n : Str} {a : Addr} (h : g.γ n = a) : SdE g W (tC (.ref a)) (iC (.gl n)) := sd_c fun _ => by rw [← h]; rfl
theorem sd_op {r : R2} {f : Va → Va → Sto → R Va} (hr : SdR g W r f) (ha : SdE g W ta ia) (hb : SdE g W tb ib) : SdE g W (tOp r ta tb) (iOp f ia ib) := fun ι ρ S σ H Q s e h =>
  ha ι ρ S σ H _ s e (h.then fun x ι1 S1 H1 l s1 h1 v vr => hb ι1 ρ S1 σ H1 _ s1 (e.mono l.le) (h1.then fun y ι2 S2 H2 l2 s2 h2 u ur => hr ι2 S2 H2 x y v u σ Q s2 (vr.mono l2.le) ur h2))
theorem sd_nil : SdA g W tNil iNil := fun ι ρ S σ H Q s e h => h ι H (Ext.refl _ _) s [] .nil
theorem sd_cons {t : TA} {i : IA} (ha : SdE g W ta ia) (hr : SdA g W t i) : SdA g W (tCons ta t) (iCons ia i) := fun ι ρ S σ H Q s e h =>
  ha ι ρ S σ H _ s e (h.then fun x ι1 S1 H1 l s1 h1 v vr => hr ι1 ρ S1 σ H1 _ s1 (e.mono l.le) (h1.then fun y ι2 S2 H2 l2 s2 h2 u ur => h2 ι2 H2 (Ext.refl _ _) s2 _ (.cons (vr.mono l2.le) ur)))
theorem sz {n : Nat} (h : n ≤ 100000) : n ≤ sizeLine := Evl.sz_of h
theorem sd_lst {t : TA} {i : IA} (n : Nat) (hl : ∀ ρ S xs S', i ρ S = .ok xs S' → xs.length = n) (hn : n ≤ 100000) (ha : SdA g W t i) : SdE g W (tLst t) (iLst i) := fun ι ρ S σ H Q s e h => by
  refine ha ι ρ S σ H _ s e ?_
  unfold iLst at h
  cases hi : i ρ S with
  | ok xs S1 =>
    rw [hi] at h
    intro ι1 H1 l s1 vs vr
    refine ⟨sz (by rw [← Paired.len vr, hl _ _ _ _ hi]; exact hn), fun p hp => ?_⟩
    exact h _ _ (l.trans (Ext.snoc hp)) (s1.lst hp vr) _ s1.newRef
  | ex c S1 => rw [hi] at h; exact h
  | no => rw [hi] at h; exact h
theorem sd_tup {t : TA} {i : IA} (n : Nat) (hl : ∀ ρ S xs S', i ρ S = .ok xs S' → xs.length = n) (hn : n ≤ 100000) (ha : SdA g W t i) : SdE g W (tTup t) (iTup i) := fun ι ρ S σ H Q s e h => by
  refine ha ι ρ S σ H _ s e ?_
  unfold iTup at h
  cases hi : i ρ S with
  | ok xs S1 =>
    rw [hi] at h
    intro ι1 H1 l s1 vs vr
    refine ⟨sz (by rw [← Paired.len vr, hl _ _ _ _ hi]; exact hn), fun p hp => ?_⟩
    exact h _ _ (l.trans (Ext.snoc hp)) (s1.tup hp vr) _ s1.newRef
  | ex c S1 => rw [hi] at h; exact h
  | no => rw [hi] at h; exact h
theorem len_nil (ρ : Env) (S : Sto) (xs : List Va) (S' : Sto) (h : iNil ρ S = .ok xs S') : xs.length = 0 := by cases h; rfl
theorem len_cons {i : IA} {n : Nat} (hl : ∀ ρ S xs S', i ρ S = .ok xs S' → xs.length = n) (ρ : Env) (S : Sto) (xs : List Va) (S' : Sto) (h : iCons ia i ρ S = .ok xs S') : xs.length = n + 1 := by
  unfold iCons at h
  cases h1 : ia ρ S with
  | ok x S1 =>
    rw [h1, R.bind_ok] at h
    cases h2 : i ρ S1 with
    | ok ys S2 => rw [h2, R.bind_ok] at h; cases h; rw [List.length_cons, hl _ _ _ _ h2]
    | ex c S2 => rw [h2] at h; cases h
    | no => rw [h2] at h; cases h
  | ex c S1 => rw [h1] at h; cases h
  | no => rw [h1] at h; cases h
theorem sd_cb {r : List V → Hp → VK → Prop} {f : List Va → Sto → R Va} {t : TA} {i : IA} (hr : SdC g W r f) (ha : SdA g W t i) : SdE g W (tCB r t) (iCB f i) := fun ι ρ S σ H Q s e h =>
  ha ι ρ S σ H _ s e (h.then fun x ι1 S1 H1 l s1 h1 v vr => hr ι1 S1 H1 x v σ Q s1 vr h1)
theorem sd_un {r : V → Hp → VK → Prop} {f : Va → Sto → R Va} (hr : ∀ ι S H x v σ (Q : VK), Sim g ι S H → VR g ι x v → P g ι H (W · σ) (fun x ι' H' => ∀ v, VR g ι' x v → Q v H') (f x S) → r v H Q) (ha : SdE g W ta ia) : SdE g W (tUn r ta) (iUn f ia) := fun ι ρ S σ H Q s e h =>
  ha ι ρ S σ H _ s e (h.then fun x ι1 S1 H1 l s1 h1 v vr => hr ι1 S1 H1 x v σ Q s1 vr h1)
/-! tests -/
theorem sd_test (ha : SdE g W ta ia) : SdT g W (tTest ta) (iB ia) := fun ι ρ S σ H Q s e h =>
  ha ι ρ S σ H _ s e (h.then fun x ι1 S1 H1 l s1 h1 v vr => by
    cases x with
    | bl b => exact ⟨b, vr, h1 ι1 H1 (Ext.refl _ _) s1⟩
    | _ => exact h1.elim)
theorem sd_tB (ha : SdE g W ta ia) : SdT g W (tB ta) (iB ia) := sd_test ha
theorem sd_tru (ha : SdE g W ta ia) : SdT g W (fun σ H Q => ta σ H fun x H' => ∃ k, TruV g.K x H' k ∧ Q k H') (iB ia) := fun ι ρ S σ H Q s e h =>
  ha ι ρ S σ H _ s e (h.then fun x ι1 S1 H1 l s1 h1 v vr => by
    cases x with
    | bl b => cases vr; exact ⟨b, rfl, h1 ι1 H1 (Ext.refl _ _) s1⟩
    | _ => exact h1.elim)
theorem sd_and (ha : SdT g W tt it) (hb : SdT g W tu iu) : SdT g W (tAnd tt tu) (iAnd it iu) := fun ι ρ S σ H Q s e h =>
  ha ι ρ S σ H _ s e (h.then fun c ι1 S1 H1 l s1 h1 => by
    cases c with
    | true => exact hb ι1 ρ S1 σ H1 Q s1 (e.mono l.le) h1
    | false => exact h1 ι1 H1 (Ext.refl _ _) s1)
theorem sd_or (ha : SdT g W tt it) (hb : SdT g W tu iu) : SdT g W (tOr tt tu) (iOr it iu) := fun ι ρ S σ H Q s e h =>
  ha ι ρ S σ H _ s e (h.then fun c ι1 S1 H1 l s1 h1 => by
    cases c with
    | false => exact hb ι1 ρ S1 σ H1 Q s1 (e.mono l.le) h1
    | true => exact h1 ι1 H1 (Ext.refl _ _) s1)
theorem sd_not (ha : SdT g W tt it) : SdT g W (tNot tt) (iNot it) := fun ι ρ S σ H Q s e h =>
  ha ι ρ S σ H _ s e (h.then fun c ι1 S1 H1 l s1 h1 => h1 ι1 H1 (Ext.refl _ _) s1)
theorem sd_yes : SdT g W tYes iYes := fun ι ρ S σ H Q s e h => h ι H (Ext.refl _ _) s
theorem sd_andV (ha : SdE g W ta ia) (hb : SdE g W tb ib) : SdE g W (tAndV ta tb) (iAndV ia ib) := fun ι ρ S σ H Q s e h =>
  ha ι ρ S σ H _ s e (h.then fun x ι1 S1 H1 l s1 h1 v vr => by
    obtain ⟨b, rfl, h2⟩ := asB_inv h1
    refine ⟨b, vr, ?_⟩
    cases b with
    | true => exact hb ι1 ρ S1 σ H1 Q s1 (e.mono l.le) h2
    | false => exact h2 ι1 H1 (Ext.refl _ _) s1 _ rfl)
theorem sd_orV (ha : SdE g W ta ia) (hb : SdE g W tb ib) : SdE g W (tOrV ta tb) (iOrV ia ib) := fun ι ρ S σ H Q s e h =>
  ha ι ρ S σ H _ s e (h.then fun x ι1 S1 H1 l s1 h1 v vr => by
    obtain ⟨b, rfl, h2⟩ := asB_inv h1
    refine ⟨b, vr, ?_⟩
    cases b with
    | false => exact hb ι1 ρ S1 σ H1 Q s1 (e.mono l.le) h2
    | true => exact h2 ι1 H1 (Ext.refl _ _) s1 _ rfl)
theorem sd_notV (ha : SdE g W ta ia) : SdE g W (tNotV ta) (iNotV ia) := fun ι ρ S σ H Q s e h =>
  ha ι ρ S σ H _ s e (h.then fun x ι1 S1 H1 l s1 h1 v vr => by
    obtain ⟨b, rfl, h2⟩ := asB_inv h1
    exact ⟨b, vr, h2 ι1 H1 (Ext.refl _ _) s1 _ rfl⟩)
theorem sd_if (ht : SdT g W tt it) (ha : SdE g W ta ia) (hb : SdE g W tb ib) : SdE g W (tIf tt ta tb) (iIf it ia ib) := fun ι ρ S σ H Q s e h =>
  ht ι ρ S σ H _ s e (h.then fun c ι1 S1 H1 l s1 h1 => by
    cases c with
    | true => exact ha ι1 ρ S1 σ H1 Q s1 (e.mono l.le) h1
    | false => exact hb ι1 ρ S1 σ H1 Q s1 (e.mono l.le) h1)
theorem sd_chain {r r' : R2} {f f' : Va → Va → Sto → R Va} (hr : SdR g W r f) (hr' : SdR g W r' f') (ha : SdE g W ta ia) (hb : SdE g W tb ib) (hc : SdE g W tc ic) : SdE g W (tChain r r' ta tb tc) (iChain f f' ia ib ic) := fun ι ρ S σ H Q s e h =>
  ha ι ρ S σ H _ s e (h.then fun x ι1 S1 H1 l s1 h1 v vr => hb ι1 ρ S1 σ H1 _ s1 (e.mono l.le) (h1.then fun y ι2 S2 H2 l2 s2 h2 u ur =>
    hr ι2 S2 H2 x y v u σ _ s2 (vr.mono l2.le) ur (h2.then fun z ι3 S3 H3 l3 s3 h3 w wr => by
      obtain ⟨b, rfl, h4⟩ := asB_inv h3
      refine ⟨b, wr, ?_⟩
      cases b with
      | true => exact hc ι3 ρ S3 σ H3 _ s3 (e.mono (l.trans (l2.trans l3)).le) (h4.then fun z ι4 S4 H4 l4 s4 h5 w wr => hr' ι4 S4 H4 y z u w σ Q s4 ((ur.mono l3.le).mono l4.le) wr h5)
      | false => exact h4 ι3 H3 (Ext.refl _ _) s3 _ rfl)))
end
end IL

end
section
set_option Elab.async false
set_option linter.all false
set_option maxRecDepth 100000
set_option maxHeartbeats 2000000
namespace IL
open PySem L2
/-! ### the plain machine's operations -/
def fII (k : Int → Int → Va) : Va → Va → Sto → R Va
  | .int i, .int j, S => .ok (k i j) S
  | _, _, _ => .no
abbrev fSub := fII fun i j => .int (i - j)
abbrev fLt := fII fun i j => .bl (decide (i < j))
abbrev fLe := fII fun i j => .bl (decide (i ≤ j))
abbrev fGt := fII fun i j => .bl (decide (j < i))
abbrev fGe := fII fun i j => .bl (decide (j ≤ i))
def fAdd : Va → Va → Sto → R Va
  | .int i, .int j, S => .ok (.int (i + j)) S
  | .ref a, .ref b, S => match S[a]?, S[b]? with
    | some (.lst xs), some (.lst ys) => if xs.length + ys.length ≤ 100000 then .ok (.ref S.length) (S ++ [.lst (xs ++ ys)]) else .no
    | _, _ => .no
  | _, _, _ => .no
open Classical in
noncomputable def fMul : Va → Va → Sto → R Va
  | .int i, .int j, S => if IntMulOk i j then .ok (.int (i * j)) S else .no
  | .ref a, .int k, S => match S[a]? with
    | some (.lst xs) => if 0 ≤ k ∧ k ≤ 100000 ∧ xs.length * k.toNat ≤ 100000 then .ok (.ref S.length) (S ++ [.lst (List.replicate k.toNat xs).flatten]) else .no
    | _ => .no
  | _, _, _ => .no
def fMod : Va → Va → Sto → R Va
  | .int i, .int j, S => if 0 < j then .ok (.int (i % j)) S else .no
  | _, _, _ => .no
def fDiv : Va → Va → Sto → R Va
  | .int i, .int j, S => if 0 < j ∧ j < 1073741824 then .ok (.int (i / j)) S else .no
  | _, _, _ => .no
def fPow : Va → Va → Sto → R Va
  | .int i, .int j, S => if 0 ≤ j ∧ j ≤ 1000000 ∧ i.natAbs < 2 ^ 64 then .ok (.int (i ^ j.toNat)) S else .no
  | _, _, _ => .no
def fNeg : Va → Sto → R Va
  | .int i, S => .ok (.int (-i)) S
  | _, _ => .no
def fIs : Va → Va → Sto → R Va
  | .bl a, .bl b, S => .ok (.bl (decide (a = b))) S
  | _, _, _ => .no
def fIsNot : Va → Va → Sto → R Va
  | .bl a, .bl b, S => .ok (.bl (!decide (a = b))) S
  | _, _, _ => .no
/-- a list's items (also the script's) -/
def getL (S : Sto) : Va → Option (List Va)
  | .ref n => match S[n]? with
    | some (.lst xs) => some xs
    | _ => none
  | .scr ns => some (ns.map .int)
  | _ => none
def getT (S : Sto) : Va → Option (List Va)
  | .ref n => match S[n]? with
    | some (.tup xs) => some xs
    | _ => none
  | _ => none
def getQ (S : Sto) (x : Va) : Option (List Va) := match getL S x with
  | some xs => some xs
  | none => getT S x
def fIx (x y : Va) (S : Sto) : R Va := match getQ S x, y with
  | some xs, .int i => match atI xs i with
    | some v => .ok v S
    | none => .no
  | _, _ => .no
def fIxL (x y : Va) (S : Sto) : R Va := match getL S x, y with
  | some xs, .int i => match atI xs i with
    | some v => .ok v S
    | none => .no
  | _, _ => .no
/-! data, for == -/
def allO {α : Type} : List (Option α) → Option (List α)
  | [] => some []
  | none :: _ => none
  | some a :: r => match allO r with
    | some l => some (a :: l)
    | none => none
def toP : Nat → Sto → Va → Option PyData
  | _, _, .non => some .none
  | _, _, .bl b => some (.bool b)
  | _, _, .int i => some (.int i)
  | _, _, .str s => if PyData.strOk s = true then some (.str s) else none
  | _, _, .scr ns => some (.list (ns.map .int))
  | k + 1, S, .ref n => match S[n]? with
    | some (.lst xs) => match allO (xs.map (toP k S)) with
      | some ds => some (.list ds)
      | none => none
    | some (.tup xs) => match allO (xs.map (toP k S)) with
      | some ds => some (.tuple ds)
      | none => none
    | _ => none
  | _, _, _ => none
def fEq (x y : Va) (S : Sto) : R Va := match toP 9 S x, toP 9 S y with
  | some d, some e => .ok (.bl (PyData.eqv d e)) S
  | _, _ => .no
def fNe (x y : Va) (S : Sto) : R Va := match toP 9 S x, toP 9 S y with
  | some d, some e => .ok (.bl (!PyData.eqv d e)) S
  | _, _ => .no
def fInD (neg : Bool) (x y : Va) (S : Sto) : R Va := match toP 9 S x, toP 9 S y with
  | some d, some (.list ds) => .ok (.bl (if neg then !ds.any fun z => PyData.eqv z d else ds.any fun z => PyData.eqv z d)) S
  | _, _ => .no
def flatA : Va → Bool
  | .non => true | .bl _ => true | .int _ => true | .str _ => true | _ => false
def eqA : Va → Va → Bool
  | .non, .non => true
  | .bl a, .bl b => a == b
  | .bl a, .int b => (if a then 1 else 0) == b
  | .int a, .bl b => a == (if b then 1 else 0)
  | .int a, .int b => a == b
  | .str a, .str b => a == b
  | _, _ => false
def inA (x : Va) (xs : List Va) : Bool := xs.any fun y => eqA y x
def fIn (neg : Bool) (x y : Va) (S : Sto) : R Va := match getQ S y with
  | some xs => if flatA x = true ∧ xs.all flatA = true then .ok (.bl (if neg then !inA x xs else inA x xs)) S else .no
  | none => .no
/-! built-ins -/
def asI : Va → Option Int
  | .int i => some i
  | _ => none
def asBl : Va → Option Bool
  | .bl i => some i
  | _ => none
def asIs (xs : List Va) : Option (List Int) := allO (xs.map asI)
def asBs (xs : List Va) : Option (List Bool) := allO (xs.map asBl)
def tyB (S : Sto) : Va → Option String
  | .non => some "NoneType" | .bl _ => some "bool" | .int _ => some "int" | .str _ => some "str"
  | .ref n => match S[n]? with
    | some (.lst _) => some "list" | some (.tup _) => some "tuple" | some (.dic _) => some "dict" | _ => none
  | .scr _ => some "list"
  | _ => none
/-- the program's own classes -/
def clsL : List Str := ["Answer", "Shared", "Crowd", "Even", "Chain", "Side"]
def isSub (c d : Str) : Bool := decide (c = d) || decide (d = ("Answer" : Str))
def fIsi : List Va → Sto → R Va
  | [x, .ty u], S => match tyB S x with
    | some t => match kitB t u with
      | some b => .ok (.bl b) S
      | none => .no
    | none => .no
  | _, _ => .no
/-- isinstance(x, C), C an own class -/
def fIsiC : List Va → Sto → R Va
  | [.ref n, .gl d], S => match S[n]? with
    | some (.obj c _) => if c ∈ clsL ∧ d ∈ clsL then .ok (.bl (isSub c d)) S else .no
    | _ => .no
  | _, _ => .no
def fLen : List Va → Sto → R Va
  | [x], S => match getQ S x with
    | some xs => .ok (.int xs.length) S
    | none => .no
  | _, _ => .no
def fList : List Va → Sto → R Va
  | [x], S => match getQ S x with
    | some xs => .ok (.ref S.length) (S ++ [.lst xs])
    | none => .no
  | _, _ => .no
def fTuple : List Va → Sto → R Va
  | [x], S => match getL S x with
    | some xs => .ok (.ref S.length) (S ++ [.tup xs])
    | none => .no
  | _, _ => .no
def fSum : List Va → Sto → R Va
  | [x], S => match (getL S x).bind asIs with
    | some ns => .ok (.int ns.sum) S
    | none => .no
  | _, _ => .no
def fAll : List Va → Sto → R Va
  | [x], S => match (getL S x).bind asBs with
    | some ns => .ok (.bl (ns.all id)) S
    | none => .no
  | _, _ => .no
def fAny : List Va → Sto → R Va
  | [x], S => match (getL S x).bind asBs with
    | some ns => .ok (.bl (ns.any id)) S
    | none => .no
  | _, _ => .no
def maxL : List Int → Option Int
  | [] => none
  | x :: r => some (r.foldl max x)
def fMax : List Va → Sto → R Va
  | [.int i, .int j], S => .ok (.int (max i j)) S
  | [x], S => match ((getL S x).bind asIs).bind maxL with
    | some m => .ok (.int m) S
    | none => .no
  | _, _ => .no
def fMin : List Va → Sto → R Va
  | [.int i, .int j], S => .ok (.int (min i j)) S
  | _, _ => .no
def fAbs : List Va → Sto → R Va
  | [.int i], S => .ok (.int (i.natAbs : Int)) S
  | _, _ => .no
/-- in order -/
def srt (xs : List Int) : List Int := xs.mergeSort fun a b => decide (a ≤ b)
/-- each once -/
def dd : List Int → List Int
  | [] => []
  | x :: r => if x ∈ r then dd r else x :: dd r
def keysOf (S : Sto) : Va → Option (List Int)
  | .ref n => match S[n]? with
    | some (.dic es) => some (es.map (·.1))
    | _ => none
  | _ => none
def fSorted : List Va → Sto → R Va
  | [x], S => match (getL S x).bind asIs with
    | some ns => .ok (.ref S.length) (S ++ [.lst ((srt ns).map .int)])
    | none => .no
  | _, _ => .no
def fSortedD : List Va → Sto → R Va
  | [x], S => match keysOf S x with
    | some ns => if ns.length < 64 then .ok (.ref S.length) (S ++ [.lst ((srt ns).map .int)]) else .no
    | none => .no
  | _, _ => .no
/-- sorted(set(x)), len(set(x)) -/
def fSortedSet : List Va → Sto → R Va
  | [x], S => match (getL S x).bind asIs with
    | some ns => if ns.length < 64 then .ok (.ref S.length) (S ++ [.lst ((srt (dd ns)).map .int)]) else .no
    | none => .no
  | _, _ => .no
def fLenSet : List Va → Sto → R Va
  | [x], S => match (getL S x).bind asIs with
    | some ns => if ns.length ≤ 1000 then .ok (.int (dd ns).length) S else .no
    | none => .no
  | _, _ => .no
/-! methods of lists -/
def iBM (f : Va → List Va → Sto → R Va) (o : IE) (a : IA) : IE := fun ρ S => (o ρ S).bind fun x S1 => match getL S1 x with
  | some _ => (a ρ S1).bind fun xs S2 => f x xs S2
  | none => .no
def mAppend : Va → List Va → Sto → R Va
  | .ref n, [y], S => match S[n]? with
    | some (.lst xs) => if xs.length < 100000 then .ok .non (S.set n (.lst (xs ++ [y]))) else .no
    | _ => .no
  | _, _, _ => .no
def mExtend : Va → List Va → Sto → R Va
  | .ref n, [.ref m], S => match S[n]?, S[m]? with
    | some (.lst xs), some (.lst ys) => if xs.length + ys.length ≤ 100000 then .ok .non (S.set n (.lst (xs ++ ys))) else .no
    | _, _ => .no
  | _, _, _ => .no
def mPop : Va → List Va → Sto → R Va
  | .ref n, [], S => match S[n]? with
    | some (.lst xs) => match xs[xs.length - 1]? with
      | some y => .ok y (S.set n (.lst xs.dropLast))
      | none => .no
    | _ => .no
  | _, _, _ => .no
def mReverse : Va → List Va → Sto → R Va
  | .ref n, [], S => match S[n]? with
    | some (.lst xs) => .ok .non (S.set n (.lst xs.reverse))
    | _ => .no
  | _, _, _ => .no
def mIndex : Va → List Va → Sto → R Va
  | x, [y], S => match getL S x with
    | some xs => if flatA y = true ∧ xs.all flatA = true then match xs.findIdx? (fun z => eqA z y) with
      | some j => .ok (.int j) S
      | none => .no
      else .no
    | none => .no
  | _, _, _ => .no
def mCount : Va → List Va → Sto → R Va
  | x, [.bl b], S => match (getL S x).bind asBs with
    | some bs => .ok (.int (bs.count b)) S
    | none => .no
  | _, _, _ => .no
/-! xs[lo:hi], xs[::-1] -/
def cut {α : Type} (xs : List α) (lo hi : Option Int) : List α := (xs.drop (HT.sIx xs.length 0 lo)).take (HT.sIx xs.length xs.length hi - HT.sIx xs.length 0 lo)
abbrev IO := Env → Sto → R (Option Int)
def iNoPart : IO := fun _ S => .ok none S
def iPart (a : IE) : IO := fun ρ S => (a ρ S).bind fun x S1 => match x with
  | .int i => .ok (some i) S1
  | _ => .no
def iSl (a : IE) (lo hi : IO) : IE := fun ρ S => (a ρ S).bind fun x S1 => (lo ρ S1).bind fun l S2 => (hi ρ S2).bind fun h S3 => match getL S3 x with
  | some xs => .ok (.ref S3.length) (S3 ++ [.lst (cut xs l h)])
  | none => .no
def iRev (a : IE) : IE := fun ρ S => (a ρ S).bind fun x S1 => match getL S1 x with
  | some xs => .ok (.ref S1.length) (S1 ++ [.lst xs.reverse])
  | none => .no
/-! dicts of int keys -/
def lkD (es : List (Int × Va)) (k : Int) : Option Va := (es.find? fun e => decide (e.1 = k)).map (·.2)
def putD (es : List (Int × Va)) (k : Int) (d : Va) : List (Int × Va) := if (es.any fun e => decide (e.1 = k)) = true then es.map (fun e => if e.1 = k then (e.1, d) else e) else es ++ [(k, d)]
def getD (S : Sto) : Va → Option (List (Int × Va))
  | .ref n => match S[n]? with
    | some (.dic es) => some es
    | _ => none
  | _ => none
def iDNew : IE := fun _ S => .ok (.ref S.length) (S ++ [.dic []])
def iDGet (a b : IE) : IE := iOp (fun x y S => match getD S x, y with
  | some es, .int k => match lkD es k with
    | some v => .ok v S
    | none => .no
  | _, _ => .no) a b
def iDIn (neg : Bool) (a b : IE) : IE := iOp (fun y x S => match getD S x, y with
  | some es, .int k => .ok (.bl (if neg then !(lkD es k).isSome else (lkD es k).isSome)) S
  | _, _ => .no) a b
/-- {k: v} -/
def iDisp1 (a b : IE) : IE := fun ρ S => (a ρ S).bind fun x S1 => (b ρ S1).bind fun y S2 => match x with
  | .int k => .ok (.ref S2.length) (S2 ++ [.dic [(k, y)]])
  | _ => .no
/-! fields -/
def getO (S : Sto) : Va → Option (Str × List (Str × Va))
  | .ref n => match S[n]? with
    | some (.obj c fs) => some (c, fs)
    | _ => none
  | _ => none
def iFld (a : IE) (f : Str) : IE := fun ρ S => (a ρ S).bind fun x S1 => match getO S1 x with
  | some (c, fs) => if c ∈ clsL then match fs.lookup f with
      | some v => .ok v S1
      | none => .no
    else .no
  | none => .no
/-- list(range(a)) -/
def rng (a b : Int) : List Int := (List.range (b - a).toNat).map fun (i : Nat) => a + (i : Int)
def iListRg (a : IE) : IE := fun ρ S => (a ρ S).bind fun x S1 => match x with
  | .int n => if 0 ≤ n ∧ n ≤ 100000 then .ok (.ref S1.length) (S1 ++ [.lst ((rng 0 n).map .int)]) else .no
  | _ => .no
/-! ### what is walked, targets -/
inductive It1 where
  | one (v : Va) | tup (vs : List Va)
structure Its where
  items : List It1
  chk : Sto → Bool
abbrev II := Env → Sto → R Its
abbrev IG := It1 → Env → Sto → R Env
def sameAt (S : Sto) : Va → Sto → Bool
  | .ref n => fun S' => decide (S'[n]? = S[n]?)
  | _ => fun _ => true
def itList (a : IE) : II := fun ρ S => (a ρ S).bind fun x S1 => match getL S1 x with
  | some xs => .ok ⟨xs.map .one, sameAt S1 x⟩ S1
  | none => .no
def itTup (a : IE) : II := fun ρ S => (a ρ S).bind fun x S1 => match getT S1 x with
  | some xs => .ok ⟨xs.map .one, sameAt S1 x⟩ S1
  | none => .no
def itRng (a : IE) : II := fun ρ S => (a ρ S).bind fun x S1 => match x with
  | .int n => if -100000 ≤ n ∧ n ≤ 100000 then .ok ⟨(rng 0 n).map fun i => .one (.int i), fun _ => true⟩ S1 else .no
  | _ => .no
def enuI : Nat → List Va → List It1
  | _, [] => []
  | k, x :: xs => .tup [.int (k : Int), x] :: enuI (k + 1) xs
def itEnum (a : IE) : II := fun ρ S => (a ρ S).bind fun x S1 => match getL S1 x with
  | some xs => .ok ⟨enuI 0 xs, sameAt S1 x⟩ S1
  | none => .no
def zipI : List Va → List Va → List It1
  | x :: xs, y :: ys => .tup [x, y] :: zipI xs ys
  | _, _ => []
def itZip (a b : IE) : II := fun ρ S => (a ρ S).bind fun x S1 => (b ρ S1).bind fun y S2 => match getL S2 x, getL S2 y with
  | some xs, some ys => .ok ⟨zipI xs ys, fun S => sameAt S2 x S && sameAt S2 y S⟩ S2
  | _, _ => .no
def tgName (j : Nat) : IG
  | .one v, ρ, S => .ok (ρ.set j (some v)) S
  | .tup _, _, _ => .no
def setL (o i v : Va) (S : Sto) : R Unit := match o, i with
  | .ref n, .int k => match S[n]? with
    | some (.lst xs) => match ixN xs.length k with
      | some j => .ok () (S.set n (.lst (xs.set j v)))
      | none => .no
    | _ => .no
  | _, _ => .no
def tgSub (o i : IE) : IG
  | .one v, ρ, S => (o ρ S).bind fun x S1 => (i ρ S1).bind fun y S2 => (setL x y v S2).bind fun _ S3 => .ok ρ S3
  | .tup _, _, _ => .no
def runTgs : List IG → List Va → Env → Sto → R Env
  | [], [], ρ, S => .ok ρ S
  | t :: ts, v :: vs, ρ, S => (t (.one v) ρ S).bind fun ρ1 S1 => runTgs ts vs ρ1 S1
  | _, _, _, _ => .no
def tgTupN (n : Nat) (ts : List IG) : IG
  | .tup vs, ρ, S => if vs.length = n then runTgs ts vs ρ S else .no
  | .one v, ρ, S => match getT S v with
    | some vs => if vs.length = n then runTgs ts vs ρ S else .no
    | none => .no
/-! ### comprehensions -/
def R.bindN {α β : Type} (r : R α) (k : α → Sto → R β) : R β := match r with
  | .ok a S => k a S
  | _ => .no
@[simp] theorem R.bindN_ok {α β : Type} {a : α} {S : Sto} {k : α → Sto → R β} : (R.ok a S).bindN k = k a S := rfl
@[simp] theorem R.bindN_ex {α β : Type} {c : Str} {S : Sto} {k : α → Sto → R β} : (R.ex c S).bindN k = .no := rfl
@[simp] theorem R.bindN_no {α β : Type} {k : α → Sto → R β} : (R.no).bindN k = .no := rfl
def lcL (chk : Sto → Bool) (tg : IG) (tt : IT) (ie : IE) (ρ : Env) : List It1 → Sto → R (List Va)
  | [], S => if chk S = true then .ok [] S else .no
  | it :: r, S => if chk S = true then (tg it ρ S).bindN fun ρ1 S1 => (tt ρ1 S1).bindN fun b S2 => if b = true then (ie ρ1 S2).bindN fun y S3 => (lcL chk tg tt ie ρ r S3).bindN fun ys S4 => .ok (y :: ys) S4
    else lcL chk tg tt ie ρ r S2 else .no
def wipeE (ρ : Env) : List Nat → Env
  | [] => ρ
  | v :: vs => (wipeE ρ vs).set v none
def iLc (ii : II) (tg : IG) (tt : IT) (ie : IE) (vs : List Nat) : IE := fun ρ S => (ii ρ S).bind fun I S1 => if I.items.length ≤ 100000 then
  (lcL I.chk tg tt ie (wipeE ρ vs) I.items S1).bindN fun ys S2 => .ok (.ref S2.length) (S2 ++ [.lst ys]) else .no
/-- over a dict's keys: it is out of sight meanwhile -/
def iLcK (d : Nat) (tg : IG) (tt : IT) (ie : IE) (vs : List Nat) : IE := fun ρ S => match ρ[d]? with
  | some (some (.ref n)) => match S[n]? with
    | some (.dic es) => if es.length ≤ 100000 then (lcL (fun _ => true) tg tt ie (wipeE ρ vs) (es.map fun e => .one (.int e.1)) (S.set n .hid)).bindN fun ys S2 => .ok (.ref S2.length) (S2.set n (.dic es) ++ [.lst ys]) else .no
    | _ => .no
  | _ => .no
/-! ### statements -/
theorem R.bindN_assoc {α β γ : Type} {r : R α} {k : α → Sto → R β} {m : β → Sto → R γ} : (r.bindN k).bindN m = r.bindN fun x S => (k x S).bindN m := by cases r <;> rfl
def R.toO {α : Type} (r : R α) (ρ : Env) (k : α → Sto → O) : O := match r with
  | .ok a S => k a S
  | .ex c S => .ex c ρ S
  | .no => .no
@[simp] theorem R.toO_ok {α : Type} {a : α} {S : Sto} {ρ : Env} {k : α → Sto → O} : (R.ok a S).toO ρ k = k a S := rfl
@[simp] theorem R.toO_ex {α : Type} {c : Str} {S : Sto} {ρ : Env} {k : α → Sto → O} : (R.ex c S).toO ρ k = .ex c ρ S := rfl
@[simp] theorem R.toO_no {α : Type} {ρ : Env} {k : α → Sto → O} : (R.no).toO ρ k = .no := rfl
def O.seq (o : O) (k : IS) : O := match o with
  | .nx ρ S => k ρ S
  | o => o
@[simp] theorem O.seq_nx {ρ : Env} {S : Sto} {k : IS} : (O.nx ρ S).seq k = k ρ S := rfl
@[simp] theorem O.seq_rt {v : Va} {S : Sto} {k : IS} : (O.rt v S).seq k = .rt v S := rfl
@[simp] theorem O.seq_ex {c : Str} {ρ : Env} {S : Sto} {k : IS} : (O.ex c ρ S).seq k = .ex c ρ S := rfl
@[simp] theorem O.seq_no {k : IS} : O.no.seq k = .no := rfl
def sNext : IS := fun ρ S => .nx ρ S
def sSeq (a b : IS) : IS := fun ρ S => (a ρ S).seq b
def sAsg (e : IE) (tg : IG) : IS := fun ρ S => (e ρ S).toO ρ fun x S1 => (tg (.one x) ρ S1).toO ρ fun ρ' S2 => .nx ρ' S2
def sPar (i j : Nat) (a : IA) : IS := fun ρ S => (a ρ S).toO ρ fun xs S1 => match xs with
  | [x, y] => .nx ((ρ.set i (some x)).set j (some y)) S1
  | _ => .no
def sPar3 (i j l : Nat) (a : IA) : IS := fun ρ S => (a ρ S).toO ρ fun xs S1 => match xs with
  | [x, y, z] => .nx (((ρ.set i (some x)).set j (some y)).set l (some z)) S1
  | _ => .no
def sExpr (e : IE) : IS := fun ρ S => (e ρ S).toO ρ fun _ S1 => .nx ρ S1
def sRet (e : IE) : IS := fun ρ S => (e ρ S).toO ρ fun x S1 => .rt x S1
def sRetN : IS := fun ρ S => .rt .non S
def sIf (c : IT) (a b : IS) : IS := fun ρ S => (c ρ S).toO ρ fun k S1 => if k = true then a ρ S1 else b ρ S1
def sRaise (c : Str) : IS := fun ρ S => .ex c ρ S
def putF (f : Str) (v : Va) : List (Str × Va) → List (Str × Va)
  | [] => [(f, v)]
  | p :: r => if p.1 = f then (f, v) :: r else p :: putF f v r
def sFldSet (o : IE) (f : Str) (e : IE) : IS := fun ρ S => (e ρ S).toO ρ fun v S1 => (o ρ S1).toO ρ fun x S2 => match x with
  | .ref n => match S2[n]? with
    | some (.obj c fs) => if c ∈ clsL ∧ fs.length < 100 then .nx ρ (S2.set n (.obj c (putF f v fs))) else .no
    | _ => .no
  | _ => .no
def sDSet (d k e : IE) : IS := fun ρ S => (e ρ S).toO ρ fun v S1 => (d ρ S1).toO ρ fun x S2 => (k ρ S2).toO ρ fun y S3 => match x, y with
  | .ref n, .int i => match S3[n]? with
    | some (.dic es) => if es.length < 100000 then .nx ρ (S3.set n (.dic (putD es i v))) else .no
    | _ => .no
  | _, _ => .no
def sAug (i : Nat) (e : IE) : IS := fun ρ S => match ρ[i]? with
  | some (some (.int x)) => (e ρ S).toO ρ fun y S1 => match y with
    | .int j => .nx (ρ.set i (some (.int (x + j)))) S1
    | _ => .no
  | _ => .no
def sAugS (o i e : IE) : IS := fun ρ S => (o ρ S).toO ρ fun x S1 => (i ρ S1).toO ρ fun y S2 => (fIxL x y S2).toO ρ fun z S3 => (e ρ S3).toO ρ fun w S4 => match z, w with
  | .int a, .int b => (setL x y (.int (a + b)) S4).toO ρ fun _ S5 => .nx ρ S5
  | _, _ => .no
def forL (chk : Sto → Bool) (tg : IG) (body : IS) : List It1 → IS
  | [], ρ, S => if chk S = true then .nx ρ S else .no
  | it :: r, ρ, S => if chk S = true then ((tg it ρ S).toO ρ fun ρ1 S1 => body ρ1 S1).seq (forL chk tg body r) else .no
def sFor (ii : II) (tg : IG) (body : IS) : IS := fun ρ S => (ii ρ S).toO ρ fun I S1 => forL I.chk tg body I.items ρ S1
def whF (c : IT) (body : IS) : Nat → IS
  | 0, _, _ => .no
  | n + 1, ρ, S => (c ρ S).toO ρ fun k S1 => if k = true then (body ρ S1).seq (whF c body n) else .nx ρ S1
open Classical in
noncomputable def sWhile (c : IT) (body : IS) : IS := fun ρ S => if h : ∃ n, whF c body n ρ S ≠ .no then whF c body h.choose ρ S else .no
/-! ### defs -/
def O.val : O → R Va
  | .nx _ S => .ok .non S
  | .rt v S => .ok v S
  | .ex c _ S => .ex c S
  | .no => .no
def mkFn (p n : Nat) (body : IS) : Fn := fun xs S => if xs.length = p then (body (xs.map some ++ List.replicate (n - xs.length) none) S).val else .no
def iCall (f : Fn) (a : IA) : IE := fun ρ S => (a ρ S).bind f
def iMake (c : Str) (f : Fn) (a : IA) : IE := fun ρ S => (a ρ S).bind fun xs S1 => (f (.ref S1.length :: xs) (S1 ++ [.obj c []])).bind fun v S2 => match v with
  | .non => .ok (.ref S1.length) S2
  | _ => .no
def iMeth (c : Str) (m : Str) (f : Fn) (o : IE) (a : IA) : IE := fun ρ S => (o ρ S).bind fun x S1 => match getO S1 x with
  | some (c', fs) => if c' = c ∧ fs.lookup m = none then (a ρ S1).bind fun xs S2 => f (x :: xs) S2 else .no
  | none => .no
/-- by the class -/
def iIs (c : Str) (o : IE) (i j : IE) : IE := fun ρ S => match o ρ S with
  | .ok x S1 => match getO S1 x with
    | some (c', _) => if c' = c then i ρ S else j ρ S
    | none => .no
  | _ => .no
end IL

end
section
set_option Elab.async false
set_option linter.all false
set_option maxRecDepth 100000
set_option maxHeartbeats 2000000
namespace IL
open PySem L2
/-! ### they are sound -/
def rADD : R2 := fun x y H Q => rI0 (fun i j => .int (i + j)) x y H Q ∨ rCat x y H Q
theorem op_ADD {X : Cx} : OpR X (binaryOp .Add) rADD := op_add.or op_cat
def CMulZ (i j : Int) : Prop := IntMulOk i j
theorem op_mulZ {X : Cx} : OpR X (binaryOp .Mult) (rI CMulZ fun i j => .int (i * j)) := opI fun _ _ _ _ _ _ _ hc q => PyProof.Rows.mul_int q hc
def rMUL : R2 := fun x y H Q => rI CMulZ (fun i j => .int (i * j)) x y H Q ∨ rRep x y H Q
theorem op_MUL {X : Cx} : OpR X (binaryOp .Mult) rMUL := op_mulZ.or op_rep
section
variable {g : Gm} {W : WH} {ι : List Addr} {S : Sto} {H : Hp}
theorem sr_II {k : Int → Int → V} {k' : Int → Int → Va} (h : ∀ ι i j, VR g ι (k' i j) (k i j)) : SdR g W (rI0 k) (fII k') := fun ι S H x y v u σ Q s vx vy h1 => by
  unfold fII at h1
  split at h1
  · cases vx; cases vy
    exact ⟨_, _, rfl, rfl, h1 ι H (Ext.refl _ _) s _ (h ι _ _)⟩
  · exact h1.elim
theorem sr_sub : SdR g W (rI0 fun i j => .int (i - j)) fSub := sr_II fun _ _ _ => rfl
theorem sr_lt : SdR g W (rI0 fun i j => .bl (decide (i < j))) fLt := sr_II fun _ _ _ => rfl
theorem sr_le : SdR g W (rI0 fun i j => .bl (decide (i ≤ j))) fLe := sr_II fun _ _ _ => rfl
theorem sr_gt : SdR g W (rI0 fun i j => .bl (decide (j < i))) fGt := sr_II fun _ _ _ => rfl
theorem sr_ge : SdR g W (rI0 fun i j => .bl (decide (j ≤ i))) fGe := sr_II fun _ _ _ => rfl
theorem sr_add : SdR g W rADD fAdd := fun ι S H x y v u σ Q s vx vy h1 => by
  unfold fAdd at h1
  split at h1
  · cases vx; cases vy
    exact .inl ⟨_, _, rfl, rfl, h1 ι H (Ext.refl _ _) s _ rfl⟩
  · split at h1
    · rename_i xs ys ex ey
      split at h1
      · rename_i hl
        obtain ⟨p, rfl, _, vs, hp, rp⟩ := s.ref ex vx
        obtain ⟨q, rfl, _, ws, hq, rq⟩ := s.ref ey vy
        refine .inr ⟨p, q, vs, ws, rfl, rfl, hp, hq, sz (by rw [← Paired.len rp, ← Paired.len rq]; exact hl), fun z hz => ?_⟩
        exact h1 _ _ (Ext.snoc hz) (s.lst hz (Paired.append rp rq)) _ s.newRef
      · exact h1.elim
    · exact h1.elim
  · exact h1.elim
theorem sr_mul : SdR g W rMUL fMul := fun ι S H x y v u σ Q s vx vy h1 => by
  unfold fMul at h1
  split at h1
  · split at h1
    · rename_i hm
      cases vx; cases vy
      exact .inl ⟨_, _, rfl, rfl, hm, h1 ι H (Ext.refl _ _) s _ rfl⟩
    · exact h1.elim
  · split at h1
    · rename_i xs ex
      split at h1
      · rename_i k hl
        obtain ⟨p, rfl, _, vs, hp, rp⟩ := s.ref ex vx
        cases vy
        refine .inr ⟨p, _, vs, rfl, rfl, hp, by omega, by omega, sz (by rw [← Paired.len rp]; exact hl.2.2), fun z hz => ?_⟩
        exact h1 _ _ (Ext.snoc hz) (s.lst hz (Paired.rep rp _)) _ s.newRef
      · exact h1.elim
    · exact h1.elim
  · exact h1.elim
theorem sr_mod : SdR g W (rI (fun _ j => 0 < j) fun i j => .int (i % j)) fMod := fun ι S H x y v u σ Q s vx vy h1 => by
  unfold fMod at h1
  split at h1
  · split at h1
    · rename_i hm
      cases vx; cases vy
      exact ⟨_, _, rfl, rfl, hm, h1 ι H (Ext.refl _ _) s _ rfl⟩
    · exact h1.elim
  · exact h1.elim
theorem sr_div : SdR g W (rI CDiv fun i j => .int (i / j)) fDiv := fun ι S H x y v u σ Q s vx vy h1 => by
  unfold fDiv at h1
  split at h1
  · split at h1
    · rename_i hm
      cases vx; cases vy
      exact ⟨_, _, rfl, rfl, hm, h1 ι H (Ext.refl _ _) s _ rfl⟩
    · exact h1.elim
  · exact h1.elim
theorem sr_pow : SdR g W (rI CPow fun i j => .int (i ^ j.toNat)) fPow := fun ι S H x y v u σ Q s vx vy h1 => by
  unfold fPow at h1
  split at h1
  · split at h1
    · rename_i hm
      cases vx; cases vy
      exact ⟨_, _, rfl, rfl, hm, h1 ι H (Ext.refl _ _) s _ rfl⟩
    · exact h1.elim
  · exact h1.elim
theorem sd_neg {ta : TE} {ia : IE} (ha : SdE g W ta ia) : SdE g W (tUn (rU fun i => .int (-i)) ta) (iUn fNeg ia) := sd_un (fun ι S H x v σ Q s vx h1 => by
  unfold fNeg at h1
  split at h1
  · cases vx
    exact ⟨_, rfl, h1 ι H (Ext.refl _ _) s _ rfl⟩
  · exact h1.elim) ha
theorem sr_is : SdR g W rIsB fIs := fun ι S H x y v u σ Q s vx vy h1 => by
  unfold fIs at h1
  split at h1
  · cases vx; cases vy
    exact ⟨_, _, rfl, rfl, h1 ι H (Ext.refl _ _) s _ rfl⟩
  · exact h1.elim
theorem sr_isnot : SdR g W rNotB fIsNot := fun ι S H x y v u σ Q s vx vy h1 => by
  unfold fIsNot at h1
  split at h1
  · cases vx; cases vy
    exact ⟨_, _, rfl, rfl, h1 ι H (Ext.refl _ _) s _ rfl⟩
  · exact h1.elim
/-! lists -/
theorem vr_ints (ns : List Int) : VRs g ι (ns.map .int) (ns.map V.int) := by
  induction ns with
  | nil => exact .nil
  | cons n ns ih => exact .cons rfl ih
theorem getL_ok (s : Sim g ι S H) {x : Va} {v : V} {xs : List Va} (vx : VR g ι x v) (e : getL S x = some xs) : ∃ a vs, v = .ref a ∧ SqL g.K H a vs ∧ VRs g ι xs vs := by
  unfold getL at e
  split at e
  · split at e
    · rename_i ex
      cases e
      obtain ⟨p, rfl, _, vs, hp, rp⟩ := s.ref ex vx
      exact ⟨p, vs, rfl, SqL.of hp, rp⟩
    · cases e
  · cases e
    obtain ⟨rfl, rfl, z⟩ := vx
    exact ⟨_, _, rfl, s.scr z, vr_ints _⟩
  · cases e
theorem getT_ok (s : Sim g ι S H) {x : Va} {v : V} {xs : List Va} (vx : VR g ι x v) (e : getT S x = some xs) : ∃ a vs, v = .ref a ∧ H a = some (.tup vs) ∧ VRs g ι xs vs := by
  unfold getT at e
  split at e
  · split at e
    · rename_i ex
      cases e
      obtain ⟨p, rfl, _, vs, hp, rp⟩ := s.ref ex vx
      exact ⟨p, vs, rfl, hp, rp⟩
    · cases e
  · cases e
theorem getQ_ok (s : Sim g ι S H) {x : Va} {v : V} {xs : List Va} (vx : VR g ι x v) (e : getQ S x = some xs) : ∃ a vs, v = .ref a ∧ (SqL g.K H a vs ∨ SqT g.K H a vs) ∧ VRs g ι xs vs := by
  unfold getQ at e
  split at e
  · rename_i el
    cases e
    obtain ⟨a, vs, h1, h2, h3⟩ := getL_ok s vx el
    exact ⟨a, vs, h1, .inl h2, h3⟩
  · obtain ⟨a, vs, h1, h2, h3⟩ := getT_ok s vx e
    exact ⟨a, vs, h1, .inr (SqT.of h2), h3⟩
theorem sr_ix : SdR g W (rIx g.K) fIx := fun ι S H x y v u σ Q s vx vy h1 => by
  unfold fIx at h1
  split at h1
  · rename_i xs i ex
    split at h1
    · rename_i w ew
      obtain ⟨a, vs, rfl, hq, r⟩ := getQ_ok s vx ex
      obtain ⟨w', e1, e2⟩ := Paired.atI r ew
      cases vy
      rcases hq with hq | hq
      · exact .inl ⟨a, vs, i, w', rfl, rfl, hq, e1, h1 ι H (Ext.refl _ _) s _ e2⟩
      · exact .inr (.inl ⟨a, vs, i, w', rfl, rfl, hq, e1, h1 ι H (Ext.refl _ _) s _ e2⟩)
    · exact h1.elim
  · exact h1.elim
/-! == -/
theorem allO_get {α β : Type} {f : α → Option β} : ∀ {xs : List α} {ds : List β}, allO (xs.map f) = some ds → Paired (fun x d => f x = some d) xs ds
  | [], ds, h => by cases h; exact .nil
  | x :: xs, ds, h => by
    rw [List.map_cons] at h
    cases e : f x with
    | none => rw [e] at h; cases h
    | some d =>
      rw [e] at h
      unfold allO at h
      split at h
      · rename_i l hl
        cases h
        exact .cons e (allO_get hl)
      · cases h
theorem dpAll_of {xs : List Va} {vs : List V} {ds : List PyData} {f : Va → Option PyData} (hf : ∀ x v d, f x = some d → VR g ι x v → Dp g.K H v d) (r : VRs g ι xs vs) (h : Paired (fun x d => f x = some d) xs ds) : DpAll g.K H vs ds := by
  induction r generalizing ds with
  | nil => cases h; exact .nil
  | cons q t ih =>
    cases h with
    | cons h1 h2 => exact .cons (hf _ _ _ h1 q) (ih h2)
theorem dpAll_ints : ∀ ns : List Int, DpAll g.K H (ns.map V.int) (ns.map PyData.int)
  | [] => .nil
  | n :: ns => .cons (.int n) (dpAll_ints ns)
theorem toP_dp (s : Sim g ι S H) : ∀ (k : Nat) (x : Va) (v : V) (d : PyData), toP k S x = some d → VR g ι x v → Dp g.K H v d
  | k, .non, v, d, h, vx => by cases vx; simp [toP] at h; subst h; exact .non
  | k, .bl b, v, d, h, vx => by cases vx; simp [toP] at h; subst h; exact .bl b
  | k, .int b, v, d, h, vx => by cases vx; simp [toP] at h; subst h; exact .int b
  | k, .str b, v, d, h, vx => by
    cases vx
    simp only [toP] at h
    split at h
    · cases h; exact .str b
    · cases h
  | k, .scr ns, v, d, h, vx => by
    obtain ⟨rfl, rfl, z⟩ := vx
    simp [toP] at h; subst h
    exact .lst (s.scr z) (dpAll_ints _)
  | 0, .ref n, v, d, h, vx => by simp [toP] at h
  | k + 1, .ref n, v, d, h, vx => by
    simp only [toP] at h
    split at h
    · rename_i xs ex
      split at h
      · rename_i ds hds
        cases h
        obtain ⟨p, rfl, _, vs, hp, rp⟩ := s.ref ex vx
        exact .lst (SqL.of hp) (dpAll_of (toP_dp s k · · ·) rp (allO_get hds))
      · cases h
    · rename_i xs ex
      split at h
      · rename_i ds hds
        cases h
        obtain ⟨p, rfl, _, vs, hp, rp⟩ := s.ref ex vx
        exact .tup (SqT.of hp) (dpAll_of (toP_dp s k · · ·) rp (allO_get hds))
      · cases h
    · cases h
  | k, .ty n, v, d, h, vx => by simp [toP] at h
  | k, .gl n, v, d, h, vx => by simp [toP] at h
  | k, .exc n, v, d, h, vx => by simp [toP] at h
  | k, .big n, v, d, h, vx => by simp [toP] at h
theorem lay_all {f : Va → Option PyData} {n : Nat} {xs : List Va} {ds : List PyData} (hf : ∀ x d, f x = some d → d.canLay0 = true ∧ d.depth ≤ n) (h : Paired (fun x d => f x = some d) xs ds) : PyData.canLayAll0 ds = true ∧ PyData.depthAll ds ≤ n := by
  induction h with
  | nil => simp [PyData.canLayAll0, PyData.depthAll]
  | cons q t ih =>
    obtain ⟨a, b⟩ := hf _ _ q
    rw [PyData.canLayAll0, PyData.depthAll, a, ih.1]
    exact ⟨rfl, by have := ih.2; omega⟩
theorem lay_ints : ∀ ns : List Int, PyData.canLayAll0 (ns.map PyData.int) = true ∧ PyData.depthAll (ns.map PyData.int) ≤ 1
  | [] => by simp [PyData.canLayAll0, PyData.depthAll]
  | n :: ns => by
    obtain ⟨a, b⟩ := lay_ints ns
    rw [List.map_cons, PyData.canLayAll0, PyData.depthAll, a]
    simp only [PyData.canLay0, PyData.depth]
    exact ⟨rfl, by omega⟩
theorem toP_lay : ∀ (k : Nat) (x : Va) (d : PyData), toP k S x = some d → d.canLay0 = true ∧ d.depth ≤ k + 2
  | k, .non, d, h => by simp [toP] at h; subst h; simp [PyData.canLay0, PyData.depth]
  | k, .bl b, d, h => by simp [toP] at h; subst h; simp [PyData.canLay0, PyData.depth]
  | k, .int b, d, h => by simp [toP] at h; subst h; simp [PyData.canLay0, PyData.depth]
  | k, .str b, d, h => by
    simp only [toP] at h
    split at h
    · rename_i hb
      cases h; simp [PyData.canLay0, PyData.depth, hb]
    · cases h
  | k, .scr ns, d, h => by
    simp [toP] at h; subst h
    obtain ⟨a, b⟩ := lay_ints ns
    rw [PyData.canLay0, PyData.depth, a]
    exact ⟨rfl, by omega⟩
  | 0, .ref n, d, h => by simp [toP] at h
  | k + 1, .ref n, d, h => by
    simp only [toP] at h
    split at h
    · split at h
      · rename_i ds hds
        cases h
        obtain ⟨a, b⟩ := lay_all (n := k + 2) (toP_lay k · ·) (allO_get hds)
        rw [PyData.canLay0, PyData.depth, a]
        exact ⟨rfl, by omega⟩
      · cases h
    · split at h
      · rename_i ds hds
        cases h
        obtain ⟨a, b⟩ := lay_all (n := k + 2) (toP_lay k · ·) (allO_get hds)
        rw [PyData.canLay0, PyData.depth, a]
        exact ⟨rfl, by omega⟩
      · cases h
    · cases h
  | k, .ty n, d, h => by simp [toP] at h
  | k, .gl n, d, h => by simp [toP] at h
  | k, .big n, d, h => by simp [toP] at h
  | k, .exc n, d, h => by simp [toP] at h
theorem toP_shaped {x : Va} {d : PyData} (h : toP 9 S x = some d) : SeqAt.shaped d = true := by
  obtain ⟨a, b⟩ := toP_lay 9 x d h
  unfold SeqAt.shaped
  rw [a, Bool.true_and]
  exact decide_eq_true (by omega)
theorem sr_eq : SdR g W (rEqD g.K) fEq := fun ι S H x y v u σ Q s vx vy h1 => by
  unfold fEq at h1
  split at h1
  · rename_i d e hd he
    exact ⟨d, e, toP_dp s 9 _ _ _ hd vx, toP_dp s 9 _ _ _ he vy, toP_shaped hd, toP_shaped he, h1 ι H (Ext.refl _ _) s _ rfl⟩
  · exact h1.elim
theorem sr_ne : SdR g W (rNeD g.K) fNe := fun ι S H x y v u σ Q s vx vy h1 => by
  unfold fNe at h1
  split at h1
  · rename_i d e hd he
    exact ⟨d, e, toP_dp s 9 _ _ _ hd vx, toP_dp s 9 _ _ _ he vy, toP_shaped hd, toP_shaped he, h1 ι H (Ext.refl _ _) s _ rfl⟩
  · exact h1.elim
theorem sr_inD : SdR g W (rInD g.K) (fInD false) := fun ι S H x y v u σ Q s vx vy h1 => by
  unfold fInD at h1
  split at h1
  · rename_i d e hd he
    exact ⟨d, e, toP_dp s 9 _ _ _ hd vx, toP_dp s 9 _ _ _ he vy, toP_shaped hd, toP_shaped he, h1 ι H (Ext.refl _ _) s _ rfl⟩
  · exact h1.elim
theorem sr_niD : SdR g W (rNotInD g.K) (fInD true) := fun ι S H x y v u σ Q s vx vy h1 => by
  unfold fInD at h1
  split at h1
  · rename_i d e hd he
    exact ⟨d, e, toP_dp s 9 _ _ _ hd vx, toP_dp s 9 _ _ _ he vy, toP_shaped hd, toP_shaped he, h1 ι H (Ext.refl _ _) s _ rfl⟩
  · exact h1.elim
/-! in -/
theorem flat_vr {x : Va} {v : V} (h : VR g ι x v) (f : flatA x = true) : flatV v = true := by
  cases x <;> first | (cases h; rfl) | (simp [flatA] at f)
theorem eq_vr {x y : Va} {v u : V} (hx : VR g ι x v) (hy : VR g ι y u) (fx : flatA x = true) (fy : flatA y = true) : eqV v u = eqA x y := by
  cases x <;> first | (simp [flatA] at fx; done) | (cases hx; cases y <;> first | (simp [flatA] at fy; done) | (cases hy; rfl))
theorem flats_vr {xs : List Va} {vs : List V} (r : VRs g ι xs vs) (f : xs.all flatA = true) : vs.all flatV = true := by
  induction r with
  | nil => rfl
  | cons q t ih =>
    rw [List.all_cons, Bool.and_eq_true] at f
    rw [List.all_cons, flat_vr q f.1, ih f.2]; rfl
theorem in_vr {x : Va} {v : V} {xs : List Va} {vs : List V} (hx : VR g ι x v) (fx : flatA x = true) (r : VRs g ι xs vs) (f : xs.all flatA = true) : inV v vs = inA x xs := by
  induction r with
  | nil => rfl
  | cons q t ih =>
    rw [List.all_cons, Bool.and_eq_true] at f
    unfold inV inA at ih ⊢
    rw [List.any_cons, List.any_cons, ih f.2, eq_vr q hx f.1 fx]
theorem sr_in {neg : Bool} : SdR g W (rIn g.K neg) (fIn neg) := fun ι S H x y v u σ Q s vx vy h1 => by
  unfold fIn at h1
  split at h1
  · rename_i xs ex
    split at h1
    · rename_i hf
      obtain ⟨a, vs, rfl, hq, r⟩ := getQ_ok s vy ex
      refine ⟨a, vs, rfl, hq, flat_vr vx hf.1, flats_vr r hf.2, ?_⟩
      rw [in_vr vx hf.1 r hf.2]
      exact h1 ι H (Ext.refl _ _) s _ rfl
    · exact h1.elim
  · exact h1.elim
/-! built-ins -/
theorem vrs1 {x : Va} {vs : List V} (h : VRs g ι [x] vs) : ∃ v, vs = [v] ∧ VR g ι x v := by
  cases h with | cons h t => cases t; exact ⟨_, rfl, h⟩
theorem vrs2 {x y : Va} {vs : List V} (h : VRs g ι [x, y] vs) : ∃ v u, vs = [v, u] ∧ VR g ι x v ∧ VR g ι y u := by
  cases h with | cons h t => obtain ⟨u, rfl, h2⟩ := vrs1 t; exact ⟨_, _, rfl, h, h2⟩
theorem vrs0 {vs : List V} (h : VRs g ι [] vs) : vs = [] := by cases h; rfl
theorem ints_vr {xs : List Va} {ns : List Int} {vs : List V} (e : asIs xs = some ns) (r : VRs g ι xs vs) : vs = ns.map V.int := by
  have h := allO_get e
  clear e
  induction r generalizing ns with
  | nil => cases h; rfl
  | @cons x v xs vs q t ih =>
    cases h with
    | cons h1 h2 =>
      rw [List.map_cons, ih h2]
      cases x <;> simp [asI] at h1
      cases q; rw [h1]
theorem bls_vr {xs : List Va} {ns : List Bool} {vs : List V} (e : asBs xs = some ns) (r : VRs g ι xs vs) : vs = ns.map V.bl := by
  have h := allO_get e
  clear e
  induction r generalizing ns with
  | nil => cases h; rfl
  | @cons x v xs vs q t ih =>
    cases h with
    | cons h1 h2 =>
      rw [List.map_cons, ih h2]
      cases x <;> simp [asBl] at h1
      cases q; rw [h1]
theorem getI_ok (s : Sim g ι S H) {x : Va} {v : V} {ns : List Int} (vx : VR g ι x v) (e : (getL S x).bind asIs = some ns) : ∃ a, v = .ref a ∧ SqL g.K H a (ns.map V.int) := by
  obtain ⟨xs, e1, e2⟩ := Option.bind_eq_some_iff.mp e
  obtain ⟨a, vs, h1, h2, h3⟩ := getL_ok s vx e1
  rw [ints_vr e2 h3] at h2
  exact ⟨a, h1, h2⟩
theorem getB_ok (s : Sim g ι S H) {x : Va} {v : V} {ns : List Bool} (vx : VR g ι x v) (e : (getL S x).bind asBs = some ns) : ∃ a, v = .ref a ∧ SqL g.K H a (ns.map V.bl) := by
  obtain ⟨xs, e1, e2⟩ := Option.bind_eq_some_iff.mp e
  obtain ⟨a, vs, h1, h2, h3⟩ := getL_ok s vx e1
  rw [bls_vr e2 h3] at h2
  exact ⟨a, h1, h2⟩
/-- the classes' facts -/
structure Cl (g : Gm) : Prop where
  cls : ∀ c ∈ clsL, Cls g.K (g.γ c)
  sub : ∀ c ∈ clsL, ∀ d ∈ clsL, PySem.W.kitOne g.K (.ref (g.γ c)) (.ref (g.γ d)) = some (isSub c d)
  ha : ∀ c ∈ clsL, PySem.W.findIn g.K (.ref (g.γ c)) "__class__" = some (some (.builtin "object.__class__"))
  hn : PySem.W.specialIn g.K (.builtin "object.__class__") "__get__" = some (some (.builtin "getset_descriptor.__get__"))
  ht : PySem.W.takesIn g.K (.builtin "object.__class__") = some true
  hm : ∀ c ∈ clsL, PySem.W.mroIn g.K (g.γ c) (.type "object") = some true
theorem tyB_ok (s : Sim g ι S H) {x : Va} {v : V} {t : String} (vx : VR g ι x v) (e : tyB S x = some t) : TyX g.K H v (.type t) := by
  cases x with
  | non => cases vx; cases e; exact .base .non
  | bl b => cases vx; cases e; exact .base (.bl b)
  | int b => cases vx; cases e; exact .base (.int b)
  | str b => cases vx; cases e; exact .base (.str b)
  | ref n =>
    simp only [tyB] at e
    split at e
    · rename_i ex; cases e
      obtain ⟨p, rfl, _, vs, hp, rp⟩ := s.ref ex vx
      exact .base (.lst hp)
    · rename_i ex; cases e
      obtain ⟨p, rfl, _, vs, hp, rp⟩ := s.ref ex vx
      exact .base (.tup hp)
    · rename_i ex; cases e
      obtain ⟨p, rfl, _, vs, hp, rp⟩ := s.ref ex vx
      exact .base (.dK hp)
    · cases e
  | scr ns =>
    cases e
    obtain ⟨rfl, rfl, z⟩ := vx
    rcases s.scr z with (h | ⟨o, h⟩) | ⟨o, its, n, h1, h2, _⟩
    · exact .base (.lst h)
    · exact .base (.frz h)
    · exact .kList h1 h2
  | _ => cases e
theorem sc_isi : SdC g W (rIsi g.K) fIsi := fun ι S H xs vs σ Q s r h1 => by
  unfold fIsi at h1
  split at h1
  · rename_i x u
    obtain ⟨v, w, rfl, vx, vy⟩ := vrs2 r
    split at h1
    · rename_i t ht
      split at h1
      · rename_i b hb
        cases vy
        exact ⟨v, .ty u, .type t, .type u, b, rfl, .ty u, tyB_ok s vx ht, kit_ty hb, h1 ι H (Ext.refl _ _) s _ rfl⟩
      · exact h1.elim
    · exact h1.elim
  · exact h1.elim
theorem sc_isiC (cl : Cl g) : SdC g W (rIsi g.K) fIsiC := fun ι S H xs vs σ Q s r h1 => by
  unfold fIsiC at h1
  split at h1
  · rename_i n d
    obtain ⟨v, w, rfl, vx, vy⟩ := vrs2 r
    split at h1
    · rename_i c fs ex
      split at h1
      · rename_i hc
        cases vy
        obtain ⟨p, rfl, _, dx, ws, hp, rp⟩ := s.ref ex vx
        exact ⟨_, _, _, _, _, rfl, .own _, .base (.ins hp (cl.cls c hc.1) (cl.ha c hc.1) cl.hn cl.ht (cl.hm c hc.1)), cl.sub c hc.1 d hc.2, h1 ι H (Ext.refl _ _) s _ rfl⟩
      · exact h1.elim
    · exact h1.elim
  · exact h1.elim
def rLEN (K : PySem.W.Frag) : List V → Hp → VK → Prop := fun xs H Q => ∃ x n, xs = [x] ∧ LenV K x H n ∧ Q (.int n) H
theorem call_LEN {X : Cx} : CallR X (.builtin "len") (rLEN X.K) := call_len
theorem sc_len : SdC g W (rLEN g.K) fLen := fun ι S H xs vs σ Q s r h1 => by
  unfold fLen at h1
  split at h1
  · obtain ⟨v, rfl, vx⟩ := vrs1 r
    split at h1
    · rename_i xs ex
      obtain ⟨a, ws, rfl, hq, r⟩ := getQ_ok s vx ex
      refine ⟨.ref a, ws.length, rfl, ?_, ?_⟩
      · rcases hq with hq | hq
        · exact .inl ⟨ws, hq, rfl⟩
        · exact .inr ⟨ws, hq, rfl⟩
      · rw [← Paired.len r]; exact h1 ι H (Ext.refl _ _) s _ rfl
    · exact h1.elim
  · exact h1.elim
def rLIST (K : PySem.W.Frag) : List V → Hp → VK → Prop := fun xs H Q => ∃ p ys, xs = [.ref p] ∧ (SqL K H p ys ∨ SqT K H p ys) ∧ ∀ l, H l = none → Q (.ref l) (upd H l (.lst ys))
theorem call_LIST {X : Cx} : CallR X (.type "list") (rLIST X.K) := call_list_of
theorem sc_list : SdC g W (rLIST g.K) fList := fun ι S H xs vs σ Q s r h1 => by
  unfold fList at h1
  split at h1
  · obtain ⟨v, rfl, vx⟩ := vrs1 r
    split at h1
    · rename_i xs ex
      obtain ⟨a, ws, rfl, hq, r⟩ := getQ_ok s vx ex
      exact ⟨a, ws, rfl, hq, fun p hp => h1 _ _ (Ext.snoc hp) (s.lst hp r) _ s.newRef⟩
    · exact h1.elim
  · exact h1.elim
def rTUPLE (K : PySem.W.Frag) : List V → Hp → VK → Prop := fun xs H Q => ∃ p ys, xs = [.ref p] ∧ ((SqL K H p ys ∧ ∀ l, H l = none → Q (.ref l) (upd H l (.tup ys))) ∨ (SqT K H p ys ∧ Q (.ref p) H))
theorem call_TUPLE {X : Cx} : CallR X (.type "tuple") (rTUPLE X.K) := call_tuple_of
theorem sc_tuple : SdC g W (rTUPLE g.K) fTuple := fun ι S H xs vs σ Q s r h1 => by
  unfold fTuple at h1
  split at h1
  · obtain ⟨v, rfl, vx⟩ := vrs1 r
    split at h1
    · rename_i xs ex
      obtain ⟨a, ws, rfl, hq, r⟩ := getL_ok s vx ex
      exact ⟨a, ws, rfl, .inl ⟨hq, fun p hp => h1 _ _ (Ext.snoc hp) (s.tup hp r) _ s.newRef⟩⟩
    · exact h1.elim
  · exact h1.elim
theorem sc_sum : SdC g W (rSum g.K) fSum := fun ι S H xs vs σ Q s r h1 => by
  unfold fSum at h1
  split at h1
  · obtain ⟨v, rfl, vx⟩ := vrs1 r
    split at h1
    · rename_i ns en
      obtain ⟨a, rfl, hq⟩ := getI_ok s vx en
      exact ⟨a, ns, rfl, hq, h1 ι H (Ext.refl _ _) s _ rfl⟩
    · exact h1.elim
  · exact h1.elim
theorem sc_all : SdC g W (rAll g.K) fAll := fun ι S H xs vs σ Q s r h1 => by
  unfold fAll at h1
  split at h1
  · obtain ⟨v, rfl, vx⟩ := vrs1 r
    split at h1
    · rename_i ns en
      obtain ⟨a, rfl, hq⟩ := getB_ok s vx en
      exact ⟨a, ns, rfl, hq, h1 ι H (Ext.refl _ _) s _ rfl⟩
    · exact h1.elim
  · exact h1.elim
theorem sc_any : SdC g W (rAny g.K) fAny := fun ι S H xs vs σ Q s r h1 => by
  unfold fAny at h1
  split at h1
  · obtain ⟨v, rfl, vx⟩ := vrs1 r
    split at h1
    · rename_i ns en
      obtain ⟨a, rfl, hq⟩ := getB_ok s vx en
      exact ⟨a, ns, rfl, hq, h1 ι H (Ext.refl _ _) s _ rfl⟩
    · exact h1.elim
  · exact h1.elim
def rMAX (K : PySem.W.Frag) : List V → Hp → VK → Prop := fun xs H Q => rMax K xs H Q ∨ ∃ i j, xs = [.int i, .int j] ∧ Q (.int (if j > i then j else i)) H
def rMIN (K : PySem.W.Frag) : List V → Hp → VK → Prop := fun xs H Q => rMin K xs H Q ∨ ∃ i j, xs = [.int i, .int j] ∧ Q (.int (if j < i then j else i)) H
theorem call_MAX {X : Cx} (hc : X.calm = true) : CallR X (.builtin "max") (rMAX X.K) := (cr_max hc).or (call_max2 hc)
theorem call_MIN {X : Cx} (hc : X.calm = true) : CallR X (.builtin "min") (rMIN X.K) := (cr_min hc).or (call_min2 hc)
theorem foldl_max_ge : ∀ (l : List Int) (x : Int), x ≤ l.foldl max x ∧ ∀ y ∈ l, y ≤ l.foldl max x
  | [], x => ⟨Int.le_refl _, fun y h => by simp at h⟩
  | z :: l, x => by
    obtain ⟨h1, h2⟩ := foldl_max_ge l (max x z)
    rw [List.foldl_cons]
    refine ⟨by omega, fun y hy => ?_⟩
    rcases List.mem_cons.mp hy with rfl | hy
    · omega
    · exact h2 y hy
theorem foldl_max_mem : ∀ (l : List Int) (x : Int), l.foldl max x ∈ x :: l
  | [], x => by simp
  | z :: l, x => by
    rw [List.foldl_cons]
    rcases List.mem_cons.mp (foldl_max_mem l (max x z)) with h | h
    · rw [h]
      by_cases hz : x ≤ z
      · rw [Int.max_eq_right hz]; simp
      · rw [Int.max_eq_left (by omega)]; simp
    · exact List.mem_cons_of_mem _ (List.mem_cons_of_mem _ h)
theorem maxL_is {ns : List Int} {m : Int} (h : maxL ns = some m) : m ∈ ns ∧ ∀ y ∈ ns, y ≤ m := by
  cases ns with
  | nil => cases h
  | cons x l =>
    cases h
    refine ⟨foldl_max_mem l x, fun y hy => ?_⟩
    obtain ⟨h1, h2⟩ := foldl_max_ge l x
    rcases List.mem_cons.mp hy with rfl | hy
    · exact h1
    · exact h2 y hy
theorem sc_max : SdC g W (rMAX g.K) fMax := fun ι S H xs vs σ Q s r h1 => by
  unfold fMax at h1
  split at h1
  · rename_i i j
    obtain ⟨v, w, rfl, vx, vy⟩ := vrs2 r
    cases vx; cases vy
    refine .inr ⟨i, j, rfl, ?_⟩
    have e : (if j > i then j else i) = max i j := by split <;> omega
    rw [e]; exact h1 ι H (Ext.refl _ _) s _ rfl
  · obtain ⟨v, rfl, vx⟩ := vrs1 r
    split at h1
    · rename_i m em
      obtain ⟨ns, en, e2⟩ := Option.bind_eq_some_iff.mp em
      obtain ⟨a, rfl, hq⟩ := getI_ok s vx en
      obtain ⟨m1, m2⟩ := maxL_is e2
      refine .inl ⟨a, ns, rfl, hq, List.length_pos_of_mem m1, fun m' hm hl => ?_⟩
      have e : m' = m := by have := hl m m1; have := m2 m' hm; omega
      subst e
      exact h1 ι H (Ext.refl _ _) s _ rfl
    · exact h1.elim
  · exact h1.elim
theorem sc_min : SdC g W (rMIN g.K) fMin := fun ι S H xs vs σ Q s r h1 => by
  unfold fMin at h1
  split at h1
  · rename_i i j
    obtain ⟨v, w, rfl, vx, vy⟩ := vrs2 r
    cases vx; cases vy
    refine .inr ⟨i, j, rfl, ?_⟩
    have e : (if j < i then j else i) = min i j := by split <;> omega
    rw [e]; exact h1 ι H (Ext.refl _ _) s _ rfl
  · exact h1.elim
def rABS : List V → Hp → VK → Prop := fun xs H Q => ∃ i, xs = [.int i] ∧ Q (.int (if i < 0 then -i else i)) H
theorem call_ABS {X : Cx} : CallR X (.builtin "abs") rABS := call_abs
theorem sc_abs : SdC g W rABS fAbs := fun ι S H xs vs σ Q s r h1 => by
  unfold fAbs at h1
  split at h1
  · rename_i i
    obtain ⟨v, rfl, vx⟩ := vrs1 r
    cases vx
    refine ⟨i, rfl, ?_⟩
    have e : (if i < 0 then -i else i) = (i.natAbs : Int) := by split <;> omega
    rw [e]; exact h1 ι H (Ext.refl _ _) s _ rfl
  · exact h1.elim
/-! sorted -/
theorem sorted_uniq : ∀ {xs ys : List Int}, xs.Perm ys → xs.Pairwise (· ≤ ·) → ys.Pairwise (· ≤ ·) → xs = ys
  | [], ys, p, _, _ => by rw [List.nil_perm.mp p]
  | x :: xs, [], p, _, _ => by have := p.length_eq; simp at this
  | x :: xs, y :: ys, p, h1, h2 => by
    rw [List.pairwise_cons] at h1 h2
    have hx : x ∈ y :: ys := p.subset List.mem_cons_self
    have hy : y ∈ x :: xs := p.symm.subset List.mem_cons_self
    have e : x = y := by
      rcases List.mem_cons.mp hx with e | hx
      · exact e
      · rcases List.mem_cons.mp hy with e | hy
        · exact e.symm
        · have := h1.1 y hy; have := h2.1 x hx; omega
    subst e
    rw [sorted_uniq (List.Perm.cons_inv p) h1.2 h2.2]
theorem srt_perm (xs : List Int) : (srt xs).Perm xs := List.mergeSort_perm xs _
theorem srt_le (xs : List Int) : (srt xs).Pairwise (· ≤ ·) := by
  have h := List.pairwise_mergeSort (le := fun a b : Int => decide (a ≤ b)) (fun a b c h1 h2 => by simp at h1 h2 ⊢; omega) (fun a b => by simp; omega) xs
  exact h.imp (by simp)
theorem srt_of {xs ys : List Int} (hp : ys.Perm xs) (hs : ys.Pairwise (· ≤ ·)) : srt xs = ys := sorted_uniq ((srt_perm xs).trans hp.symm) (srt_le xs) hs
theorem mem_dd : ∀ {xs : List Int} {x : Int}, x ∈ dd xs ↔ x ∈ xs
  | [], x => by simp [dd]
  | y :: xs, x => by
    unfold dd
    split
    · rename_i h
      rw [mem_dd, List.mem_cons]
      exact ⟨.inr, fun z => z.elim (fun e => e ▸ h) id⟩
    · rw [List.mem_cons, List.mem_cons, mem_dd]
theorem nodup_dd : ∀ xs : List Int, (dd xs).Nodup
  | [] => by simp [dd]
  | y :: xs => by
    unfold dd
    split
    · exact nodup_dd xs
    · rename_i h
      exact List.nodup_cons.mpr ⟨fun z => h (mem_dd.mp z), nodup_dd xs⟩
theorem dd_of_nodup : ∀ {xs : List Int}, xs.Nodup → dd xs = xs
  | [], _ => rfl
  | y :: xs, h => by
    obtain ⟨h1, h2⟩ := List.nodup_cons.mp h
    unfold dd
    rw [if_neg h1, dd_of_nodup h2]
theorem dd_length_le : ∀ xs : List Int, (dd xs).length ≤ xs.length
  | [] => Nat.le_refl _
  | y :: xs => by
    unfold dd
    split
    · exact Nat.le_trans (dd_length_le xs) (by simp)
    · simp [dd_length_le xs]
theorem dd_length_nodup : ∀ {xs : List Int}, (dd xs).length = xs.length → xs.Nodup
  | [], _ => by simp
  | y :: xs, h => by
    unfold dd at h
    split at h
    · have := dd_length_le xs
      simp at h; omega
    · rename_i hn
      exact List.nodup_cons.mpr ⟨hn, dd_length_nodup (by simpa using h)⟩
theorem perm_of_mem {xs ys : List Int} (h1 : xs.Nodup) (h2 : ys.Nodup) (h : ∀ k, k ∈ xs ↔ k ∈ ys) : xs.Perm ys := (List.perm_ext_iff_of_nodup h1 h2).mpr h
theorem sc_sorted : SdC g W (rSortedI g.K) fSorted := fun ι S H xs vs σ Q s r h1 => by
  unfold fSorted at h1
  split at h1
  · obtain ⟨v, rfl, vx⟩ := vrs1 r
    split at h1
    · rename_i ns en
      obtain ⟨a, rfl, hq⟩ := getI_ok s vx en
      refine ⟨a, ns, rfl, hq, fun ns' p hp hs hn => ?_⟩
      rw [← srt_of hp hs]
      exact h1 _ _ (Ext.snoc hn) (s.lst hn (vr_ints _)) _ s.newRef
    · exact h1.elim
  · exact h1.elim
def rSORTD : List V → Hp → VK → Prop := fun xs H Q => ∃ (a : Addr) (kvs : List (Key × V)) (ks : List Int), xs = [.ref a] ∧ Rd H a (.dK kvs) ∧ kvs.map (·.1) = ks.map Sum.inl ∧ ks.length < 64 ∧
    ∀ (ys : List Int) (p : Addr), ys.Perm ks → ys.Pairwise (· ≤ ·) → H p = none → Q (.ref p) (upd H p (.lst (ys.map V.int)))
theorem call_SORTD {X : Cx} (hc : X.calm = true) : CallR X (.builtin "sorted") rSORTD := call_sortedDI hc
theorem keys_kr {es : List (Int × Va)} {kvs : List (Key × V)} (h : Paired (KR g ι) es kvs) : kvs.map (·.1) = (es.map (·.1)).map Sum.inl := by
  induction h with
  | nil => rfl
  | cons q t ih => rw [List.map_cons, List.map_cons, List.map_cons, ih, q.1]
theorem sc_sortedD : SdC g W rSORTD fSortedD := fun ι S H xs vs σ Q s r h1 => by
  unfold fSortedD at h1
  split at h1
  · rename_i x
    obtain ⟨v, rfl, vx⟩ := vrs1 r
    split at h1
    · rename_i ns en
      split at h1
      · rename_i hl
        unfold keysOf at en
        split at en
        · split at en
          · rename_i es ee
            cases en
            obtain ⟨p, rfl, _, kvs, hp, rp⟩ := s.ref ee vx
            refine ⟨p, kvs, _, rfl, .inl hp, keys_kr rp, hl, fun ys q hq hs hn => ?_⟩
            rw [← srt_of hq hs]
            exact h1 _ _ (Ext.snoc hn) (s.lst hn (vr_ints _)) _ s.newRef
          · cases en
        · cases en
      · exact h1.elim
    · exact h1.elim
  · exact h1.elim
end
end IL

end
section
set_option Elab.async false
set_option linter.all false
set_option maxRecDepth 100000
set_option maxHeartbeats 4000000
namespace ILS
open PySem PySem.Spec PyProof.Rows L2
/-- an empty set's object, as set(..) lays it -/
abbrev emp (w : World) : Obj := { cls := .type "set", dict := none, data := .set #[] 0 (.fresh 0 0 (!w.params.followText "set-order")) }
section
variable {P : Program} {w : World} {A : Around} {E : Value → Shared → Prop} {s : Shared}
theorem set_of_list {l : Addr} {its : Array Value} (xs : List Int) {Q : Value → Shared → Prop} (nohandle : A.handled = none) (isl : s.heap.IsList l its) (are : IntsAre its.toList xs) (few : xs.length + 1 < scanBound)
    (fin : ∀ (hp : Heap) (tk c : Nat), SetR w hp s.heap.objs.size (fun j => decide (j ∈ xs)) c → c ≤ xs.length → (∀ b o, s.heap.get? b = some o → hp.get? b = some o) → Q (.ref s.heap.objs.size) { s with heap := hp, toks := tk }) :
    wpAny (model P w) A (call (.type "set") [.ref l]) Q E s := by
  have size_eq : its.size = xs.length := by
    have z := IntsAre.length are
    rwa [Array.length_toList] at z
  obtain ⟨cc, tl, mro⟩ := F.called_set.mro
  have made := F.called_set.made; have sub := F.called_set.sub
  refine wpAny_call (codeAny_of_tree ?_)
  show wpAny _ _ (callAny (.type "set") _) _ _ _
  refine wpAny_pure ⟨Code.quiet_builtin _ (by decide +kernel), codeAny_builtin F.entry_type_call (?_)⟩
  rw [Around.under_plain (weight_type_call_type "set" [.ref l] []) (by rfl)]
  have c1 := F.called_set.notType; have c2 := F.called_set.canCreate; have c3 := F.typeCall_set_1 (.ref l)
  repeat (any_goals first | assumption | wp_step)
  refine codeAny_mono (code_set_led1 (.ref l) (E := E) (Q₁ := fun ob st => ob = .ref s.heap.objs.size ∧ st = { s with heap := s.heap.push (emp w) }) ⟨rfl, rfl⟩) fun res st hres => ?_
  cases res with
  | error e => exact hres
  | ok flow =>
    cases flow with
    | ret ob =>
      obtain ⟨rfl, rfl⟩ := hres
      have at0 : (s.heap.push (emp w)).get? s.heap.objs.size = some (emp w) := Heap.get?_push_size _ rfl
      have ty0 : Shared.TypeIs { s with heap := s.heap.push (emp w) } (.ref s.heap.objs.size) "set" := ⟨_, at0, rfl⟩
      have i1 := F.called_set.init.lookup; have i2 := F.called_set.init.bind (.ref s.heap.objs.size)
      repeat (any_goals first | assumption | wp_step)
      refine codeAny_mono (codeAny_call_builtin (R := wants (fun rv st2 => rv = .none ∧ ∃ hp tk c, st2 = { s with heap := hp, toks := tk } ∧ SetR w hp s.heap.objs.size (fun j => decide (j ∈ xs)) c ∧ c ≤ xs.length ∧
          (∀ b o, s.heap.get? b = some o → hp.get? b = some o)) E) F.called_set.init.plain F.entry_set_init (check_set_init_1 ty0 (?_))) fun res2 st2 hres2 => ?_
      · obtain ⟨ob, hob, hc, nn, hdat⟩ := isl
        obtain ⟨c0, dd, data, sl⟩ := ob
        simp only at hc hdat
        subst hc hdat
        have old : (s.heap.push (emp w)).get? l = some { cls := .type "list", dict := dd, data := .seq its nn, slots := sl } := Heap.get?_push_of_some _ hob
        have k1 := F.sub_list_set; have k2 := F.sub_list_frozenset
        have k3 : (Value.type "list" == Value.type "dict") = false := by rfl
        have isl1 : (s.heap.push (emp w)).IsList l its := ⟨_, old, rfl, nn, rfl⟩
        unfold Builtin.«set.__init__» noKeywords Builtin.Frozenset.updateFrom
        generalize ePI : pyIter = PI
        wp_walk
        subst ePI
        refine wpAny_pyIter_list isl1 (?_)
        refine wpAny_bind (wpAny_runValue (?_))
        have lt0 : l < s.heap.objs.size := Heap.lt_size hob
        have nh : A.in1.in1.in1.handled = none := by simp [nohandle]
        have neI : l ≠ (s.heap.push (emp w)).objs.size := by
          rw [Heap.size_push]
          exact Nat.ne_of_lt (Nat.lt_succ_of_lt lt0)
        have nin : s.heap.objs.size ∉ [(s.heap.push (emp w)).objs.size, l] := by
          rw [Heap.size_push]
          intro z
          rcases List.mem_cons.mp z with e | z
          · exact absurd e (Nat.ne_of_lt (Nat.lt_succ_self _))
          · exact absurd (List.mem_singleton.mp z) (Nat.ne_of_gt lt0)
        have vals : ∀ (i : Nat) (v : Value), its[i]? = some v → ∃ k t, xs[i]? = some k ∧ v = .int k t := fun i v hv => by
          have hi : i < xs.length := by
            rw [← size_eq]
            exact (Array.getElem?_eq_some_iff.mp hv).1
          obtain ⟨t, e⟩ := IntsAre.int_at are i v (by rw [Array.getElem?_toList]; exact hv)
          refine ⟨xs[i], t, List.getElem?_eq_getElem hi, ?_⟩
          rw [e, List.getD_eq_getElem?_getD, List.getElem?_eq_getElem hi] <;> rfl
        refine set_update_ints ((Walks.list nh _ l neI its).toS) s.heap.objs.size nin xs size_eq few vals (its.size - 0) 0 _ (by omega) (Nat.zero_le _) ⟨⟨_, Heap.get?_push_size _ rfl, rfl, rfl⟩, isl1.push _⟩ ?start ?stop
        case start =>
          exact ⟨0, Nat.le_refl 0, setR_new_at (Heap.get?_push_of_some _ at0)⟩
        case stop =>
          intro s' c' hm hc' hS'
          obtain ⟨hp, g2, d2, tk2, os2⟩ := s'
          have eg : g2 = s.gens := hm.gens
          have ed : d2 = s.drawn := hm.drawn
          have eo : os2 = s.os := hm.os
          subst eg ed eo
          show wpAny _ _ _ _ _ _
          refine wpAny_pure (?_)
          show wpAny _ _ (ret Value.none) _ _ _
          rw [size_eq] at hc'
          refine wpAny_pure ⟨rfl, hp, tk2, c', rfl, hS', hc', fun b o e => ?_⟩
          have lb : b < s.heap.objs.size := Heap.lt_size e
          refine hm.heap b o (fun z => ?_) (Heap.get?_push_of_some _ (Heap.get?_push_of_some _ e))
          rcases List.mem_cons.mp z with e1 | z
          · exact absurd e1 (Nat.ne_of_lt lb)
          · rw [List.mem_singleton, Heap.size_push] at z
            exact absurd z (Nat.ne_of_lt (Nat.lt_succ_of_lt lb))
      · cases res2 with
        | error e => exact hres2
        | ok flow2 =>
          cases flow2 with
          | ret rv =>
            obtain ⟨rfl, hp, tk, c', rfl, hS', hc', hk'⟩ := hres2
            repeat (any_goals first | assumption | wp_step)
            exact fin _ _ _ hS' hc' hk'
          | _ => exact hres2.elim
    | _ => exact hres.elim
end
end ILS
namespace IL
open PySem PySem.Spec PyProof.Rows L2
/-- set(xs), xs a list of ints -/
def rSET (K : PySem.W.Frag) (w : World) : List V → Hp → VK → Prop := fun vs H Q => ∃ (l : Addr) (xs : List Int), vs = [.ref l] ∧ SqL K H l (xs.map V.int) ∧ xs.length ≤ 1000 ∧ ∀ p c, H p = none → c ≤ xs.length → Q (.ref p) (upd H p (SetO w p (fun j => decide (j ∈ xs)) c))
theorem call_SET {X : Cx} (hc : X.calm = true) : CallR X (.type "set") (rSET X.K X.w) := by
  intro pins s σ H vs us Q I r h
  obtain ⟨l, xs, rfl, hs, hl, q⟩ := h
  obtain ⟨its, rv, pl, _⟩ := I.list hs
  rw [Vals.ref1 r]
  refine ILS.set_of_list xs (I.ok.hd hc) pl.isList (by simpa using rv.ints) (by unfold scanBound; omega) fun hp tk c R hcn k => ?_
  exact ⟨.ref s.heap.objs.size, _, I.laid (a := s.heap.objs.size) (o := SetO X.w s.heap.objs.size (fun j => decide (j ∈ xs)) c) (t' := tk) (fun b o e => k b o e) (Nat.le_refl _) (setO_new R), rfl, q _ c I.fresh hcn⟩
/-- len(s), s a set of ints -/
def rLENSET (w : World) : List V → Hp → VK → Prop := fun vs H Q => ∃ (a : Addr) (S : Int → Bool) (n : Nat), vs = [.ref a] ∧ H a = some (SetO w a S n) ∧ ∀ L : List Int, L.Nodup → (∀ k, k ∈ L ↔ S k = true) → L.length = n → Q (.int (n : Int)) H
theorem call_LENSET {X : Cx} : CallR X (.builtin "len") (rLENSET X.w) := by
  intro pins s σ H vs us Q I r h
  obtain ⟨a, S, n, rfl, ha, q⟩ := h
  obtain ⟨o, es, ep, t, ho, hex, hd, g, nd, hm, hb, hf, hn, hr, hl⟩ := setO_get I ha
  rw [Vals.ref1 r]
  refine call_len_set ho hex hd hf (by unfold scanBound at hb; omega) ⟨.int n, H, I.tok _, ⟨_, by rw [hn]⟩, ?_⟩
  exact q (es.toList.map L2.keyOf) nd (fun k => (hm k).symm) (by rw [List.length_map, Array.length_toList, hn])
end IL

end
section
set_option Elab.async false
set_option linter.all false
set_option maxRecDepth 100000
set_option maxHeartbeats 2000000
namespace IL
open PySem L2
section
variable {g : Gm} {W : WH} {ι : List Addr} {S : Sto} {H : Hp} {ta tb te : TE} {ia ib ie : IE}
/-! ### sets -/
theorem sd_sortedSet {w : World} {t : TA} {i : IA} (ha : SdA g W t i) : SdE g W (tCB (rSortedSet w) (tCons (tCB (rSET g.K w) t) tNil)) (iCB fSortedSet i) := fun ι ρ S σ H Q s e h =>
  ha ι ρ S σ H _ s e (h.then fun xs ι1 S1 H1 l s1 h1 vs r => by
    unfold fSortedSet at h1
    split at h1
    · obtain ⟨v, rfl, vx⟩ := vrs1 r
      split at h1
      · rename_i ns en
        split at h1
        · rename_i hl
          obtain ⟨a, rfl, hq⟩ := getI_ok s1 vx en
          refine ⟨a, ns, rfl, hq, by omega, fun p c hp hc => ⟨p, _, c, rfl, upd_same, by omega, fun ms q h2 h3 h4 hq' => ?_⟩⟩
          have hm : ∀ k, k ∈ ms ↔ k ∈ dd ns := fun k => by rw [h3, mem_dd, decide_eq_true_iff]
          have hnd : ms.Nodup := h2.imp fun h => by omega
          have e : srt (dd ns) = ms := srt_of (perm_of_mem hnd (nodup_dd ns) hm) (h2.imp fun h => by omega)
          rw [← e]
          have s2 : Sim g ι1 S1 (upd H1 p (SetO w p (fun j => decide (j ∈ ns)) c)) := s1.more hp
          exact h1 _ _ ((Ext.new hp).trans (Ext.snoc hq')) (s2.lst hq' (vr_ints _)) _ s2.newRef
        · exact h1.elim
      · exact h1.elim
    · exact h1.elim)
theorem sd_lenSet {w : World} {t : TA} {i : IA} (ha : SdA g W t i) : SdE g W (tCB (rLENSET w) (tCons (tCB (rSET g.K w) t) tNil)) (iCB fLenSet i) := fun ι ρ S σ H Q s e h =>
  ha ι ρ S σ H _ s e (h.then fun xs ι1 S1 H1 l s1 h1 vs r => by
    unfold fLenSet at h1
    split at h1
    · obtain ⟨v, rfl, vx⟩ := vrs1 r
      split at h1
      · rename_i ns en
        split at h1
        · rename_i hl
          obtain ⟨a, rfl, hq⟩ := getI_ok s1 vx en
          refine ⟨a, ns, rfl, hq, hl, fun p c hp hc => ⟨p, _, c, rfl, upd_same, fun L h2 h3 h4 => ?_⟩⟩
          have hm : ∀ k, k ∈ L ↔ k ∈ dd ns := fun k => by rw [h3, mem_dd, decide_eq_true_iff]
          have e : c = (dd ns).length := by rw [← h4]; exact (perm_of_mem h2 (nodup_dd ns) hm).length_eq
          subst e
          exact h1 _ _ (Ext.new hp) (s1.more hp) _ rfl
        · exact h1.elim
      · exact h1.elim
    · exact h1.elim)
/-! ### methods of lists -/
theorem sd_bm {r : V → List V → Hp → VK → Prop} {f : Va → List Va → Sto → R Va} {t : TA} {i : IA} (hr : SdM g W r f) (ho : SdE g W ta ia) (ha : SdA g W t i) : SdE g W (tBM g.K "list" r ta t) (iBM f ia i) := fun ι ρ S σ H Q s e h =>
  ho ι ρ S σ H _ s e (h.then fun x ι1 S1 H1 l s1 h1 v vx => by
    try dsimp only at h1
    split at h1
    · rename_i ys hy
      refine ⟨?_, ha ι1 ρ S1 σ H1 _ s1 (e.mono l.le) (h1.then fun xs ι2 S2 H2 l2 s2 h2 vs r => hr ι2 S2 H2 x v xs vs σ Q s2 (vx.mono l2.le) r h2)⟩
      obtain ⟨a, vs, rfl, hq, _⟩ := getL_ok s1 vx hy
      exact .inl ⟨rfl, vs, hq⟩
    · exact h1.elim)
theorem sd_bm0 {r : V → List V → Hp → VK → Prop} {f : Va → List Va → Sto → R Va} (hr : SdM g W r f) (ho : SdE g W ta ia) : SdE g W (tBM0 g.K "list" r ta) (iBM f ia iNil) := fun ι ρ S σ H Q s e h =>
  ho ι ρ S σ H _ s e (h.then fun x ι1 S1 H1 l s1 h1 v vx => by
    try dsimp only at h1
    split at h1
    · rename_i ys hy
      refine ⟨?_, hr ι1 S1 H1 x v [] [] σ Q s1 vx .nil h1⟩
      obtain ⟨a, vs, rfl, hq, _⟩ := getL_ok s1 vx hy
      exact .inl ⟨rfl, vs, hq⟩
    · exact h1.elim)
theorem notFrz_lst {a : Addr} {vs : List V} (h : H a = some (.lst vs)) : Soft H a := .of h rfl
theorem Sim.putL (s : Sim g ι S H) {n : Nat} {a : Addr} {vs ws : List V} {xs : List Va} (e : ι[n]? = some a) (h : H a = some (.lst vs)) (r : VRs g ι xs ws) : Sim g ι (S.set n (.lst xs)) (upd H a (.lst ws)) := s.put e (notFrz_lst h) ⟨ws, upd_same, r⟩
theorem sm_append : SdM g W rAppend mAppend := fun ι S H x v xs vs σ Q s vx r h1 => by
  unfold mAppend at h1
  split at h1
  · rename_i n y
    split at h1
    · rename_i zs ez
      split at h1
      · rename_i hl
        obtain ⟨u, rfl, vy⟩ := vrs1 r
        obtain ⟨a, rfl, ea, ws, hp, rp⟩ := s.ref ez vx
        exact ⟨a, ws, u, rfl, rfl, hp, Evl.sz_lt (by rw [← Paired.len rp]; exact hl), h1 _ _ (Ext.put ea (notFrz_lst hp)) (s.putL ea hp (Paired.append rp (.cons vy .nil))) _ rfl⟩
      · exact h1.elim
    · exact h1.elim
  · exact h1.elim
theorem sm_extend : SdM g W rExtend mExtend := fun ι S H x v xs vs σ Q s vx r h1 => by
  unfold mExtend at h1
  split at h1
  · rename_i n m
    split at h1
    · rename_i zs ys ez ey
      split at h1
      · rename_i hl
        obtain ⟨u, rfl, vy⟩ := vrs1 r
        obtain ⟨a, rfl, ea, ws, hp, rp⟩ := s.ref ez vx
        obtain ⟨b, rfl, eb, us, hq, rq⟩ := s.ref ey vy
        exact ⟨a, b, ws, us, rfl, rfl, hp, hq, sz (by rw [← Paired.len rp, ← Paired.len rq]; exact hl), h1 _ _ (Ext.put ea (notFrz_lst hp)) (s.putL ea hp (Paired.append rp rq)) _ rfl⟩
      · exact h1.elim
    · exact h1.elim
  · exact h1.elim
theorem sm_pop : SdM g W rPop mPop := fun ι S H x v xs vs σ Q s vx r h1 => by
  unfold mPop at h1
  split at h1
  · rename_i n
    split at h1
    · rename_i zs ez
      split at h1
      · rename_i y ey
        cases vrs0 r
        obtain ⟨a, rfl, ea, ws, hp, rp⟩ := s.ref ez vx
        obtain ⟨u, hu, ru⟩ := Paired.get rp ey
        refine ⟨a, ws, u, rfl, rfl, hp, by rw [← Paired.len rp]; exact hu, h1 _ _ (Ext.put ea (notFrz_lst hp)) (s.putL ea hp ?_) _ ru⟩
        rw [List.dropLast_eq_take, List.dropLast_eq_take, ← Paired.len rp]
        exact Paired.take _ rp
      · exact h1.elim
    · exact h1.elim
  · exact h1.elim
theorem sm_reverse : SdM g W rReverse mReverse := fun ι S H x v xs vs σ Q s vx r h1 => by
  unfold mReverse at h1
  split at h1
  · rename_i n
    split at h1
    · rename_i zs ez
      cases vrs0 r
      obtain ⟨a, rfl, ea, ws, hp, rp⟩ := s.ref ez vx
      exact ⟨a, ws, rfl, rfl, hp, h1 _ _ (Ext.put ea (notFrz_lst hp)) (s.putL ea hp (Paired.reverse rp)) _ rfl⟩
    · exact h1.elim
  · exact h1.elim
theorem flatAt {xs : List Va} (f : xs.all flatA = true) {j : Nat} {z : Va} (h : xs[j]? = some z) : flatA z = true := List.all_eq_true.mp f z (List.mem_of_getElem? h)
theorem Paired.getR {α β : Type} {F : α → β → Prop} : ∀ {xs : List α} {us : List β} {i : Nat} {u : β}, Paired F xs us → us[i]? = some u → ∃ x, xs[i]? = some x ∧ F x u
  | _, _, _, _, .nil, e => by simp at e
  | _, _, 0, _, .cons r _, e => by simp at e; subst e; exact ⟨_, rfl, r⟩
  | _, _, i + 1, x, .cons _ t, e => by
    obtain ⟨u, h1, h2⟩ := Paired.getR (i := i) (u := x) t (by simpa using e)
    exact ⟨u, by simpa using h1, h2⟩
theorem sm_index : SdM g W (rIndex g.K) mIndex := fun ι S H x v xs vs σ Q s vx r h1 => by
  unfold mIndex at h1
  split at h1
  · rename_i y
    split at h1
    · rename_i zs ez
      split at h1
      · rename_i hf
        split at h1
        · rename_i j ej
          obtain ⟨u, rfl, vy⟩ := vrs1 r
          obtain ⟨a, ws, rfl, hq, rp⟩ := getL_ok s vx ez
          obtain ⟨hj, hz, hlt⟩ := List.findIdx?_eq_some_iff_getElem.mp ej
          have ez' : zs[j]? = some zs[j] := by simp [hj]
          obtain ⟨z, e1, e2⟩ := Paired.get rp ez'
          refine ⟨a, ws, u, j, z, rfl, rfl, hq, flat_vr vy hf.1, flats_vr rp hf.2, e1, ?_, fun m z' hm em => ?_, h1 _ _ (Ext.refl _ _) s _ rfl⟩
          · rw [eq_vr e2 vy (flatAt hf.2 ez') hf.1]; exact hz
          · obtain ⟨zz, e3, e4⟩ := Paired.getR rp em
            rw [eq_vr e4 vy (flatAt hf.2 e3) hf.1]
            have := hlt m hm
            obtain ⟨hm', e5⟩ := List.getElem?_eq_some_iff.mp e3
            rw [e5] at this
            simpa using this
        · exact h1.elim
      · exact h1.elim
    · exact h1.elim
  · exact h1.elim
/-! ### slices -/
theorem cut_vr {xs : List Va} {vs : List V} (r : VRs g ι xs vs) (lo hi : Option Int) : VRs g ι (cut xs lo hi) (cutV vs lo hi) := by
  unfold cut cutV
  rw [← Paired.len r]
  exact Paired.take _ (Paired.drop _ r)
def SdO (g : Gm) (W : WH) (t : TO) (i : IO) : Prop := ∀ ι ρ S σ H (Q : Option Int → Hp → Prop), Sim g ι S H → ER g ι ρ σ → P g ι H (W · σ) (fun b _ H' => Q b H') (i ρ S) → t σ H Q
theorem so_none : SdO g W tNoPart iNoPart := fun ι ρ S σ H Q s e h => h ι H (Ext.refl _ _) s
theorem so_some (ha : SdE g W ta ia) : SdO g W (tPart ta) (iPart ia) := fun ι ρ S σ H Q s e h =>
  ha ι ρ S σ H _ s e (h.then fun x ι1 S1 H1 l s1 h1 v vx => by
    try dsimp only at h1
    split at h1
    · cases vx
      exact ⟨_, rfl, h1 _ _ (Ext.refl _ _) s1⟩
    · exact h1.elim)
theorem sd_sl {tl th : TO} {il ih : IO} (ha : SdE g W ta ia) (hl : SdO g W tl il) (hh : SdO g W th ih) : SdE g W (tSl (rSlL g.K) ta tl th) (iSl ia il ih) := fun ι ρ S σ H Q s e h =>
  ha ι ρ S σ H _ s e (h.then fun x ι1 S1 H1 l1 s1 h1 v vx => hl ι1 ρ S1 σ H1 _ s1 (e.mono l1.le) (h1.then fun lo ι2 S2 H2 l2 s2 h2 => hh ι2 ρ S2 σ H2 _ s2 ((e.mono l1.le).mono l2.le) (h2.then fun hi ι3 S3 H3 l3 s3 h3 => by
    try dsimp only at h3
    split at h3
    · rename_i xs ex
      obtain ⟨a, vs, rfl, hq, r⟩ := getL_ok s3 ((vx.mono l2.le).mono l3.le) ex
      exact ⟨a, vs, rfl, hq, fun p hp => h3 _ _ (Ext.snoc hp) (s3.lst hp (cut_vr r lo hi)) _ s3.newRef⟩
    · exact h3.elim)))
theorem sd_rev (ha : SdE g W ta ia) : SdE g W (tRevL g.K ta) (iRev ia) := fun ι ρ S σ H Q s e h =>
  ha ι ρ S σ H _ s e (h.then fun x ι1 S1 H1 l1 s1 h1 v vx => by
    try dsimp only at h1
    split at h1
    · rename_i xs ex
      obtain ⟨a, vs, rfl, hq, r⟩ := getL_ok s1 vx ex
      exact ⟨a, vs, rfl, hq, fun p hp => h1 _ _ (Ext.snoc hp) (s1.lst hp (Paired.reverse r)) _ s1.newRef⟩
    · exact h1.elim)
/-! ### dicts -/
theorem inl_dec (a b : Int) : decide ((Sum.inl a : Key) = Sum.inl b) = decide (a = b) := by
  by_cases h : a = b
  · subst h; simp
  · rw [decide_eq_false h]; exact decide_eq_false fun z => h (Sum.inl.inj z)
theorem kr_find {es : List (Int × Va)} {kvs : List (Key × V)} (k : Int) (r : Paired (KR g ι) es kvs) : (lkD es k = none ∧ valV kvs (.inl k) = none) ∨ ∃ d v, lkD es k = some d ∧ valV kvs (.inl k) = some v ∧ VR g ι d v := by
  induction r with
  | nil => exact .inl ⟨rfl, rfl⟩
  | @cons e kv es kvs q t ih =>
    obtain ⟨k', d⟩ := e
    obtain ⟨k2, v⟩ := kv
    obtain ⟨q1, q2⟩ := q
    dsimp only at q1 q2
    subst q1
    by_cases e : k' = k
    · subst e
      refine .inr ⟨d, v, ?_, valV_pos rfl, q2⟩
      simp [lkD, List.find?_cons]
    · have e' : ¬ ((Sum.inl k' : Key) = Sum.inl k) := fun z => e (Sum.inl.inj z)
      rw [valV_neg e']
      have : lkD ((k', d) :: es) k = lkD es k := by simp [lkD, List.find?_cons, e]
      rw [this]
      exact ih
theorem kr_any {es : List (Int × Va)} {kvs : List (Key × V)} (k : Int) (r : Paired (KR g ι) es kvs) : (kvs.any fun kv => decide (kv.1 = .inl k)) = es.any fun e => decide (e.1 = k) := by
  induction r with
  | nil => rfl
  | cons q t ih => rw [List.any_cons, List.any_cons, ih, q.1, inl_dec]
theorem kr_map {es : List (Int × Va)} {kvs : List (Key × V)} {d : Va} {v : V} (k : Int) (h : VR g ι d v) (r : Paired (KR g ι) es kvs) : Paired (KR g ι) (es.map fun e => if e.1 = k then (e.1, d) else e) (kvs.map fun kv => if kv.1 = .inl k then (kv.1, v) else kv) := by
  induction r with
  | nil => exact .nil
  | @cons e kv es kvs q t ih =>
    rw [List.map_cons, List.map_cons]
    refine .cons ?_ ih
    obtain ⟨q1, q2⟩ := q
    by_cases e1 : e.1 = k
    · rw [if_pos e1, if_pos (by rw [q1, e1])]
      exact ⟨q1, h⟩
    · rw [if_neg e1, if_neg (by rw [q1]; exact fun z => e1 (Sum.inl.inj z))]
      exact ⟨q1, q2⟩
theorem kr_put {es : List (Int × Va)} {kvs : List (Key × V)} {d : Va} {v : V} (k : Int) (r : Paired (KR g ι) es kvs) (h : VR g ι d v) : Paired (KR g ι) (putD es k d) (putK kvs (.inl k) v) := by
  unfold putK putD
  rw [kr_any k r]
  split
  · exact kr_map k h r
  · exact Paired.append r (.cons ⟨rfl, h⟩ .nil)
theorem getD_ok (s : Sim g ι S H) {x : Va} {v : V} {es : List (Int × Va)} (vx : VR g ι x v) (e : getD S x = some es) : ∃ a kvs, v = .ref a ∧ H a = some (.dK kvs) ∧ Paired (KR g ι) es kvs := by
  unfold getD at e
  split at e
  · split at e
    · rename_i ex
      cases e
      obtain ⟨p, rfl, _, vs, hp, rp⟩ := s.ref ex vx
      exact ⟨p, vs, rfl, hp, rp⟩
    · cases e
  · cases e
theorem sd_dnew : SdE g W tDNewK iDNew := fun ι ρ S σ H Q s e h p hp => h _ _ (Ext.snoc hp) (s.alloc hp ⟨[], upd_same, .nil⟩) _ s.newRef
theorem sd_dget (ha : SdE g W ta ia) (hb : SdE g W tb ib) : SdE g W (tDGet ta tb) (iDGet ia ib) := fun ι ρ S σ H Q s e h =>
  ha ι ρ S σ H _ s e (h.then fun x ι1 S1 H1 l s1 h1 v vx => hb ι1 ρ S1 σ H1 _ s1 (e.mono l.le) (h1.then fun y ι2 S2 H2 l2 s2 h2 u vy => by
    try dsimp only at h2
    split at h2
    · rename_i es k ee
      split at h2
      · rename_i d ed
        obtain ⟨a, kvs, rfl, hd, r⟩ := getD_ok s2 (vx.mono l2.le) ee
        cases vy
        rcases kr_find k r with ⟨z, _⟩ | ⟨d', w, z, zv, zd⟩
        · rw [ed] at z; cases z
        · rw [ed] at z; cases z
          exact ⟨a, w, rfl, by have := DGet.k (k := Sum.inl k) hd; rw [zv] at this; exact this, h2 _ _ (Ext.refl _ _) s2 _ zd⟩
      · exact h2.elim
    · exact h2.elim))
theorem sd_din (ha : SdE g W ta ia) (hb : SdE g W tb ib) : SdE g W (tDIn ta tb) (iDIn false ia ib) := fun ι ρ S σ H Q s e h =>
  ha ι ρ S σ H _ s e (h.then fun x ι1 S1 H1 l s1 h1 v vx => hb ι1 ρ S1 σ H1 _ s1 (e.mono l.le) (h1.then fun y ι2 S2 H2 l2 s2 h2 u vy => by
    try dsimp only at h2
    split at h2
    · rename_i es k ee
      obtain ⟨a, kvs, rfl, hd, r⟩ := getD_ok s2 vy ee
      cases vx
      refine ⟨a, _, rfl, DGet.k (k := Sum.inl k) hd, ?_⟩
      have := h2 _ _ (Ext.refl _ _) s2 _ rfl
      rcases kr_find k r with ⟨z, z2⟩ | ⟨d', w, z, zv, zd⟩
      · rw [z] at this; rw [z2]; exact this
      · rw [z] at this; rw [zv]; exact this
    · exact h2.elim))
theorem sd_dni (ha : SdE g W ta ia) (hb : SdE g W tb ib) : SdE g W (tDNotIn ta tb) (iDIn true ia ib) := fun ι ρ S σ H Q s e h =>
  ha ι ρ S σ H _ s e (h.then fun x ι1 S1 H1 l s1 h1 v vx => hb ι1 ρ S1 σ H1 _ s1 (e.mono l.le) (h1.then fun y ι2 S2 H2 l2 s2 h2 u vy => by
    try dsimp only at h2
    split at h2
    · rename_i es k ee
      obtain ⟨a, kvs, rfl, hd, r⟩ := getD_ok s2 vy ee
      cases vx
      refine ⟨a, _, rfl, DGet.k (k := Sum.inl k) hd, ?_⟩
      have := h2 _ _ (Ext.refl _ _) s2 _ rfl
      rcases kr_find k r with ⟨z, z2⟩ | ⟨d', w, z, zv, zd⟩
      · rw [z] at this; rw [z2]; exact this
      · rw [z] at this; rw [zv]; exact this
    · exact h2.elim))
theorem sd_disp1 (ha : SdE g W ta ia) (hb : SdE g W tb ib) : SdE g W (tDisp [(ta, tb)]) (iDisp1 ia ib) := fun ι ρ S σ H Q s e h p hp => by
  have nin : p ∉ ι := s.fresh hp
  have s0 : Sim g ι S (upd H p (.dK [])) := s.more hp
  have e0 : Ext ι H ι (upd H p (.dK [])) := Ext.new hp
  refine ha ι ρ S σ _ _ s0 e (h.thenB e0 fun x ι1 S1 H1 l s1 h1 v vx => hb ι1 ρ S1 σ H1 _ s1 (e.mono l.le) (h1.thenB (e0.trans l) fun y ι2 S2 H2 l2 s2 h2 u vy => ?_))
  obtain ⟨np, ep⟩ := (l.trans l2).fr p nin (by rw [upd_same]; intro z; cases z) (by rw [upd_same]; intro ps z; cases z)
  rw [upd_same] at ep
  refine ⟨ep, ?_⟩
  try dsimp only at h2
  split at h2
  · rename_i k
    cases (vx.mono l2.le)
    refine ⟨[(.inl k, u)], rfl, by simp, ?_⟩
    exact h2 (ι2 ++ [p]) _ (Ext.join hp (l.trans l2)) (s2.join np (.of ep rfl) ⟨_, upd_same, .cons ⟨rfl, vy.mono (Le.snoc _ _)⟩ .nil⟩) _ s2.newRef
  · exact h2.elim
/-! ### fields, list(range(..)) -/
theorem fr_lookup {f : Str} {fs : List (Str × Va)} {vs : List (Str × V)} {d : Va} (r : Paired (FR g ι) fs vs) (h : fs.lookup f = some d) : ∃ v, vs.lookup f = some v ∧ VR g ι d v := by
  induction r with
  | nil => simp [List.lookup] at h
  | @cons e kv fs vs q t ih =>
    obtain ⟨k, x⟩ := e
    obtain ⟨k2, v⟩ := kv
    obtain ⟨q1, q2⟩ := q
    dsimp only at q1 q2
    subst q1
    rw [List.lookup_cons] at h ⊢
    cases z : f == k2 with
    | true => rw [z] at h; simp at h; subst h; exact ⟨v, rfl, q2⟩
    | false => rw [z] at h; exact ih h
theorem fr_lookupN {f : Str} {fs : List (Str × Va)} {vs : List (Str × V)} (r : Paired (FR g ι) fs vs) (h : fs.lookup f = none) : vs.lookup f = none := by
  induction r with
  | nil => rfl
  | @cons e kv fs vs q t ih =>
    obtain ⟨k, x⟩ := e
    obtain ⟨k2, v⟩ := kv
    obtain ⟨q1, q2⟩ := q
    dsimp only at q1 q2
    subst q1
    rw [List.lookup_cons] at h ⊢
    cases z : f == k2 with
    | true => rw [z] at h; simp at h
    | false => rw [z] at h; exact ih h
theorem getO_ok (s : Sim g ι S H) {x : Va} {v : V} {c : Str} {fs : List (Str × Va)} (vx : VR g ι x v) (e : getO S x = some (c, fs)) : ∃ a dx vs, v = .ref a ∧ H a = some (.ins (g.γ c) dx vs) ∧ Paired (FR g ι) fs vs := by
  unfold getO at e
  split at e
  · split at e
    · rename_i ex
      cases e
      obtain ⟨p, rfl, _, dx, vs, hp, rp⟩ := s.ref ex vx
      exact ⟨p, dx, vs, rfl, hp, rp⟩
    · cases e
  · cases e
theorem sd_fld {f : Str} (cl : Cl g) (na : ∀ c ∈ clsL, NoAttr g.K (g.γ c) f) (ha : SdE g W ta ia) : SdE g W (tFld g.K ta f) (iFld ia f) := fun ι ρ S σ H Q s e h =>
  ha ι ρ S σ H _ s e (h.then fun x ι1 S1 H1 l1 s1 h1 v vx => by
    try dsimp only at h1
    split at h1
    · rename_i c fs eo
      split at h1
      · rename_i hc
        split at h1
        · rename_i d ed
          obtain ⟨a, dx, vs, rfl, hp, r⟩ := getO_ok s1 vx eo
          obtain ⟨w, e1, e2⟩ := fr_lookup r ed
          exact ⟨a, _, dx, vs, w, rfl, hp, cl.cls c hc, na c hc, e1, h1 _ _ (Ext.refl _ _) s1 _ e2⟩
        · exact h1.elim
      · exact h1.elim
    · exact h1.elim)
theorem rgV_rng (a b : Int) : VRs g ι ((rng a b).map .int) (rgV a b) := by
  have e : rgV a b = (rng a b).map V.int := by unfold rgV rng; rw [List.map_map]; rfl
  rw [e]; exact vr_ints _
theorem sd_listRg (ha : SdE g W ta ia) : SdE g W (tLstRg (tRg1 ta)) (iListRg ia) := fun ι ρ S σ H Q s e h =>
  ha ι ρ S σ H _ s e (h.then fun x ι1 S1 H1 l1 s1 h1 v vx => by
    try dsimp only at h1
    split at h1
    · rename_i n
      split at h1
      · rename_i hn
        cases vx
        exact ⟨n, rfl, RgOk.of_le (by omega) (by omega) (by omega) (by omega), fun p hp => h1 _ _ (Ext.snoc hp) (s1.lst hp (rgV_rng 0 n)) _ s1.newRef⟩
      · exact h1.elim
    · exact h1.elim)
end
end IL

end
section
set_option linter.all false
set_option maxRecDepth 100000
namespace IL
open PySem L2
/-! ### one step of the machine, for simp -/
section
variable {ρ : Env} {S : Sto} {a b c o e : IE} {t u : IT} {i j : IS} {A : IA} {f : Str}
@[simp] theorem x_var {k : Nat} : iVar k ρ S = match ρ[k]? with | some (some v) => .ok v S | _ => .no := rfl
@[simp] theorem x_c {v : Va} : iC v ρ S = .ok v S := rfl
@[simp] theorem x_op {f : Va → Va → Sto → R Va} : iOp f a b ρ S = (a ρ S).bind fun x S1 => (b ρ S1).bind fun y S2 => f x y S2 := rfl
@[simp] theorem x_un {f : Va → Sto → R Va} : iUn f a ρ S = (a ρ S).bind fun x S1 => f x S1 := rfl
@[simp] theorem x_nil : iNil ρ S = .ok [] S := rfl
@[simp] theorem x_cons : iCons a A ρ S = (a ρ S).bind fun x S1 => (A ρ S1).bind fun xs S2 => .ok (x :: xs) S2 := rfl
@[simp] theorem x_lst : iLst A ρ S = (A ρ S).bind fun xs S1 => .ok (.ref S1.length) (S1 ++ [.lst xs]) := rfl
@[simp] theorem x_tup : IL.iTup A ρ S = (A ρ S).bind fun xs S1 => .ok (.ref S1.length) (S1 ++ [.tup xs]) := rfl
@[simp] theorem x_cb {f : List Va → Sto → R Va} : iCB f A ρ S = (A ρ S).bind fun xs S1 => f xs S1 := rfl
@[simp] theorem x_asB {k : Bool} : asB (.bl k) S = .ok k S := rfl
@[simp] theorem x_B : iB a ρ S = (a ρ S).bind asB := rfl
@[simp] theorem x_and : iAnd t u ρ S = (t ρ S).bind fun c S1 => if c = true then u ρ S1 else .ok false S1 := rfl
@[simp] theorem x_or : IL.iOr t u ρ S = (t ρ S).bind fun c S1 => if c = true then .ok true S1 else u ρ S1 := rfl
@[simp] theorem x_not : iNot t ρ S = (t ρ S).bind fun c S1 => .ok (!c) S1 := rfl
@[simp] theorem x_yes : iYes ρ S = .ok true S := rfl
@[simp] theorem x_andV : iAndV a b ρ S = (a ρ S).bind fun x S1 => (asB x S1).bind fun c S1 => if c = true then b ρ S1 else .ok (.bl false) S1 := rfl
@[simp] theorem x_orV : iOrV a b ρ S = (a ρ S).bind fun x S1 => (asB x S1).bind fun c S1 => if c = true then .ok (.bl true) S1 else b ρ S1 := rfl
@[simp] theorem x_notV : iNotV a ρ S = (a ρ S).bind fun x S1 => (asB x S1).bind fun c S1 => .ok (.bl (!c)) S1 := rfl
@[simp] theorem x_if : iIf t a b ρ S = (t ρ S).bind fun c S1 => if c = true then a ρ S1 else b ρ S1 := rfl
@[simp] theorem x_chain {f f' : Va → Va → Sto → R Va} : iChain f f' a b c ρ S = (a ρ S).bind fun x S1 => (b ρ S1).bind fun y S2 => (f x y S2).bind fun z S3 => (asB z S3).bind fun k S3 => if k = true then (c ρ S3).bind fun w S4 => f' y w S4 else .ok (.bl false) S3 := rfl
@[simp] theorem x_II {k : Int → Int → Va} {x y : Int} : fII k (.int x) (.int y) S = .ok (k x y) S := rfl
@[simp] theorem x_add {x y : Int} : fAdd (.int x) (.int y) S = .ok (.int (x + y)) S := rfl
@[simp] theorem x_bm {f : Va → List Va → Sto → R Va} : iBM f o A ρ S = (o ρ S).bind fun x S1 => match getL S1 x with | some _ => (A ρ S1).bind fun xs S2 => f x xs S2 | none => .no := rfl
@[simp] theorem x_noPart : iNoPart ρ S = .ok none S := rfl
@[simp] theorem x_part : iPart a ρ S = (a ρ S).bind fun x S1 => match x with | .int i => .ok (some i) S1 | _ => .no := rfl
@[simp] theorem x_sl {lo hi : IL.IO} : iSl a lo hi ρ S = (a ρ S).bind fun x S1 => (lo ρ S1).bind fun l S2 => (hi ρ S2).bind fun h S3 => match getL S3 x with | some xs => .ok (.ref S3.length) (S3 ++ [.lst (cut xs l h)]) | none => .no := rfl
@[simp] theorem x_rev : iRev a ρ S = (a ρ S).bind fun x S1 => match getL S1 x with | some xs => .ok (.ref S1.length) (S1 ++ [.lst xs.reverse]) | none => .no := rfl
@[simp] theorem x_dnew : iDNew ρ S = .ok (.ref S.length) (S ++ [.dic []]) := rfl
@[simp] theorem x_fld : iFld a f ρ S = (a ρ S).bind fun x S1 => match getO S1 x with | some (c, fs) => if c ∈ clsL then match fs.lookup f with | some v => .ok v S1 | none => .no else .no | none => .no := rfl
@[simp] theorem x_listRg : iListRg a ρ S = (a ρ S).bind fun x S1 => match x with | .int n => if 0 ≤ n ∧ n ≤ 100000 then .ok (.ref S1.length) (S1 ++ [.lst ((rng 0 n).map .int)]) else .no | _ => .no := rfl
@[simp] theorem x_itList : itList a ρ S = (a ρ S).bind fun x S1 => match getL S1 x with | some xs => .ok ⟨xs.map .one, sameAt S1 x⟩ S1 | none => .no := rfl
@[simp] theorem x_itTup : itTup a ρ S = (a ρ S).bind fun x S1 => match getT S1 x with | some xs => .ok ⟨xs.map .one, sameAt S1 x⟩ S1 | none => .no := rfl
@[simp] theorem x_itRng : itRng a ρ S = (a ρ S).bind fun x S1 => match x with | .int n => if -100000 ≤ n ∧ n ≤ 100000 then .ok ⟨(rng 0 n).map fun i => .one (.int i), fun _ => true⟩ S1 else .no | _ => .no := rfl
@[simp] theorem x_itEnum : itEnum a ρ S = (a ρ S).bind fun x S1 => match getL S1 x with | some xs => .ok ⟨enuI 0 xs, sameAt S1 x⟩ S1 | none => .no := rfl
@[simp] theorem x_itZip : itZip a b ρ S = (a ρ S).bind fun x S1 => (b ρ S1).bind fun y S2 => match getL S2 x, getL S2 y with | some xs, some ys => .ok ⟨zipI xs ys, fun S => sameAt S2 x S && sameAt S2 y S⟩ S2 | _, _ => .no := rfl
@[simp] theorem x_tgName {k : Nat} {v : Va} : tgName k (.one v) ρ S = .ok (ρ.set k (some v)) S := rfl
@[simp] theorem x_tgSub {v : Va} : tgSub a b (.one v) ρ S = (a ρ S).bind fun x S1 => (b ρ S1).bind fun y S2 => (setL x y v S2).bind fun _ S3 => .ok ρ S3 := rfl
@[simp] theorem x_tgTup {n : Nat} {ts : List IG} {vs : List Va} : tgTupN n ts (.tup vs) ρ S = if vs.length = n then runTgs ts vs ρ S else .no := rfl
@[simp] theorem x_tgTup1 {n : Nat} {ts : List IG} {v : Va} : tgTupN n ts (.one v) ρ S = match getT S v with | some vs => if vs.length = n then runTgs ts vs ρ S else .no | none => .no := rfl
@[simp] theorem x_run0 : runTgs [] [] ρ S = .ok ρ S := rfl
@[simp] theorem x_run1 {t : IG} {ts : List IG} {v : Va} {vs : List Va} : runTgs (t :: ts) (v :: vs) ρ S = (t (.one v) ρ S).bind fun ρ1 S1 => runTgs ts vs ρ1 S1 := rfl
@[simp] theorem x_wipe0 : wipeE ρ [] = ρ := rfl
@[simp] theorem x_wipe1 {v : Nat} {vs : List Nat} : wipeE ρ (v :: vs) = (wipeE ρ vs).set v none := rfl
@[simp] theorem x_next : sNext ρ S = .nx ρ S := rfl
@[simp] theorem x_seq : sSeq i j ρ S = (i ρ S).seq j := rfl
@[simp] theorem x_asg {tg : IG} : sAsg e tg ρ S = (e ρ S).toO ρ fun x S1 => (tg (.one x) ρ S1).toO ρ fun ρ' S2 => .nx ρ' S2 := rfl
@[simp] theorem x_par {k l : Nat} : sPar k l A ρ S = (A ρ S).toO ρ fun xs S1 => match xs with | [x, y] => .nx ((ρ.set k (some x)).set l (some y)) S1 | _ => .no := rfl
@[simp] theorem x_par3 {k l m : Nat} : sPar3 k l m A ρ S = (A ρ S).toO ρ fun xs S1 => match xs with | [x, y, z] => .nx (((ρ.set k (some x)).set l (some y)).set m (some z)) S1 | _ => .no := rfl
@[simp] theorem x_expr : sExpr e ρ S = (e ρ S).toO ρ fun _ S1 => .nx ρ S1 := rfl
@[simp] theorem x_ret : sRet e ρ S = (e ρ S).toO ρ fun x S1 => .rt x S1 := rfl
@[simp] theorem x_retN : sRetN ρ S = .rt .non S := rfl
@[simp] theorem x_sif : sIf t i j ρ S = (t ρ S).toO ρ fun k S1 => if k = true then i ρ S1 else j ρ S1 := rfl
@[simp] theorem x_aug {k : Nat} : sAug k e ρ S = match ρ[k]? with | some (some (.int x)) => ((e ρ S).toO ρ fun y S1 => (match y with | .int j => .nx (ρ.set k (some (.int (x + j)))) S1 | _ => .no)) | _ => .no := rfl
@[simp] theorem x_augS : sAugS o a e ρ S = (o ρ S).toO ρ fun x S1 => (a ρ S1).toO ρ fun y S2 => (fIxL x y S2).toO ρ fun z S3 => (e ρ S3).toO ρ fun w S4 => match z, w with | .int a, .int b => (setL x y (.int (a + b)) S4).toO ρ fun _ S5 => .nx ρ S5 | _, _ => .no := rfl
@[simp] theorem x_for {ii : II} {tg : IG} : sFor ii tg i ρ S = (ii ρ S).toO ρ fun I S1 => forL I.chk tg i I.items ρ S1 := rfl
@[simp] theorem x_val_nx : (O.nx ρ S).val = .ok .non S := rfl
@[simp] theorem x_val_rt {v : Va} : (O.rt v S).val = .ok v S := rfl
@[simp] theorem x_call {F : Fn} : iCall F A ρ S = (A ρ S).bind F := rfl
@[simp] theorem x_raise : sRaise f ρ S = .ex f ρ S := rfl
@[simp] theorem x_val_ex : (O.ex f ρ S).val = .ex f S := rfl
@[simp] theorem x_isi {x : Va} {s : String} : fIsi [x, .ty s] S = match tyB S x with | some t => (match kitB t s with | some b => .ok (.bl b) S | none => .no) | none => .no := rfl
theorem mk1 {n : Nat} {x : Va} {b : IS} : mkFn 1 n b [x] S = (b (some x :: List.replicate (n - 1) none) S).val := rfl
theorem mk2 {n : Nat} {x y : Va} {b : IS} : mkFn 2 n b [x, y] S = (b (some x :: some y :: List.replicate (n - 2) none) S).val := rfl
theorem mk3 {n : Nat} {x y z : Va} {b : IS} : mkFn 3 n b [x, y, z] S = (b (some x :: some y :: some z :: List.replicate (n - 3) none) S).val := rfl
theorem mk4 {n : Nat} {x y z w : Va} {b : IS} : mkFn 4 n b [x, y, z, w] S = (b (some x :: some y :: some z :: some w :: List.replicate (n - 4) none) S).val := rfl
theorem mk5 {n : Nat} {x y z w v : Va} {b : IS} : mkFn 5 n b [x, y, z, w, v] S = (b (some x :: some y :: some z :: some w :: some v :: List.replicate (n - 5) none) S).val := rfl
end
/-! ### plain stores -/
theorem get_app {S T : Sto} {n : Nat} {o : Ob} (h : S[n]? = some o) : (S ++ T)[n]? = some o := by
  rw [List.getElem?_append_left (List.getElem?_eq_some_iff.mp h).1]; exact h
theorem get_n0 {S T : Sto} {o : Ob} : (S ++ o :: T)[S.length]? = some o := by simp
theorem get_n1 {S T : Sto} {o a : Ob} : (S ++ a :: o :: T)[S.length + 1]? = some o := by
  rw [List.getElem?_append_right (by omega), show S.length + 1 - S.length = 1 by omega]; rfl
theorem get_n2 {S T : Sto} {o a b : Ob} : (S ++ a :: b :: o :: T)[S.length + 2]? = some o := by
  rw [List.getElem?_append_right (by omega), show S.length + 2 - S.length = 2 by omega]; rfl
theorem get_n3 {S T : Sto} {o a b c : Ob} : (S ++ a :: b :: c :: o :: T)[S.length + 3]? = some o := by
  rw [List.getElem?_append_right (by omega), show S.length + 3 - S.length = 3 by omega]; rfl
theorem set_n0 {S T : Sto} {o o' : Ob} : (S ++ o :: T).set S.length o' = S ++ o' :: T := by
  rw [List.set_append_right _ _ (by omega), Nat.sub_self]; rfl
theorem set_n1 {S T : Sto} {o o' a : Ob} : (S ++ a :: o :: T).set (S.length + 1) o' = S ++ a :: o' :: T := by
  rw [List.set_append_right _ _ (by omega), show S.length + 1 - S.length = 1 by omega]; rfl
theorem set_n2 {S T : Sto} {o o' a b : Ob} : (S ++ a :: b :: o :: T).set (S.length + 2) o' = S ++ a :: b :: o' :: T := by
  rw [List.set_append_right _ _ (by omega), show S.length + 2 - S.length = 2 by omega]; rfl
theorem set_n3 {S T : Sto} {o o' a b c : Ob} : (S ++ a :: b :: c :: o :: T).set (S.length + 3) o' = S ++ a :: b :: c :: o' :: T := by
  rw [List.set_append_right _ _ (by omega), show S.length + 3 - S.length = 3 by omega]; rfl
/-! ### types -/
theorem kit_ii : kitB "int" "int" = some true := by decide +kernel
theorem kit_ib : kitB "int" "bool" = some false := by decide +kernel
theorem kit_ll : kitB "list" "list" = some true := by decide +kernel
theorem kit_tt : kitB "tuple" "tuple" = some true := by decide +kernel
/-! ### loops -/
def gO (G : O → Prop) (Inv : Env → Sto → Prop) : O → Prop
  | .nx ρ S => Inv ρ S
  | o => G o
theorem for_rule {chk : Sto → Bool} {tg : IG} {body : IS} {G : O → Prop} (Inv : Nat → Env → Sto → Prop) : ∀ (its : List It1) (k : Nat) (ρ : Env) (S : Sto), Inv k ρ S →
    (∀ j it ρ S, its[j]? = some it → Inv (k + j) ρ S → chk S = true ∧ ∃ ρ1 S1, tg it ρ S = .ok ρ1 S1 ∧ gO G (Inv (k + j + 1)) (body ρ1 S1)) →
    (∀ ρ S, Inv (k + its.length) ρ S → chk S = true ∧ G (.nx ρ S)) → G (forL chk tg body its ρ S)
  | [], k, ρ, S, h, _, he => by
    obtain ⟨h1, h2⟩ := he ρ S h
    simp only [forL, h1, if_true]; exact h2
  | it :: r, k, ρ, S, h, hs, he => by
    obtain ⟨h1, ρ1, S1, h2, h3⟩ := hs 0 it ρ S rfl h
    simp only [forL, h1, if_true, h2, R.toO_ok]
    cases hb : body ρ1 S1 with
    | nx ρ2 S2 =>
      rw [hb] at h3
      rw [O.seq_nx]
      refine for_rule Inv r (k + 1) ρ2 S2 h3 (fun j it' ρ' S' e i => ?_) fun ρ' S' i => ?_
      · have := hs (j + 1) it' ρ' S' (by simpa using e) (by rw [show k + (j + 1) = k + 1 + j by omega]; exact i)
        rw [show k + (j + 1) + 1 = k + 1 + j + 1 by omega] at this
        exact this
      · exact he ρ' S' (by rw [List.length_cons, show k + (r.length + 1) = k + 1 + r.length by omega]; exact i)
    | rt v S2 => rw [hb] at h3; exact h3
    | ex c ρ2 S2 => rw [hb] at h3; exact h3
    | no => rw [hb] at h3; exact h3
/-- a for that runs through -/
theorem for_nx {chk : Sto → Bool} {tg : IG} {body : IS} (Inv : Nat → Env → Sto → Prop) (its : List It1) (ρ : Env) (S : Sto) (h0 : Inv 0 ρ S)
    (hs : ∀ j it ρ S, its[j]? = some it → Inv j ρ S → chk S = true ∧ ∃ ρ1 S1, tg it ρ S = .ok ρ1 S1 ∧ ∃ ρ2 S2, body ρ1 S1 = .nx ρ2 S2 ∧ Inv (j + 1) ρ2 S2)
    (he : ∀ ρ S, Inv its.length ρ S → chk S = true) : ∃ ρ' S', forL chk tg body its ρ S = .nx ρ' S' ∧ Inv its.length ρ' S' := by
  refine for_rule (G := fun o => ∃ ρ' S', o = .nx ρ' S' ∧ Inv its.length ρ' S') Inv its 0 ρ S h0 (fun j it ρ S e i => ?_) fun ρ S i => ?_
  · rw [Nat.zero_add] at i ⊢
    obtain ⟨h1, ρ1, S1, h2, ρ2, S2, h3, h4⟩ := hs j it ρ S e i
    exact ⟨h1, ρ1, S1, h2, by rw [h3]; exact h4⟩
  · rw [Nat.zero_add] at i
    exact ⟨he ρ S i, ρ, S, rfl, i⟩
theorem whF_mono {c : IT} {b : IS} : ∀ {n m : Nat} {ρ : Env} {S : Sto}, n ≤ m → whF c b n ρ S ≠ .no → whF c b m ρ S = whF c b n ρ S
  | 0, _, _, _, _, h => absurd rfl h
  | n + 1, 0, _, _, h, _ => by omega
  | n + 1, m + 1, ρ, S, hm, h => by
    unfold whF at h ⊢
    cases hc : c ρ S with
    | ok k S1 =>
      rw [hc] at h
      simp only [R.toO_ok] at h ⊢
      split
      · rename_i hk
        rw [if_pos hk] at h
        cases hb : b ρ S1 with
        | nx ρ2 S2 => rw [hb] at h; simp only [O.seq_nx] at h ⊢; exact whF_mono (by omega) h
        | rt v S2 => rfl
        | ex c' ρ2 S2 => rfl
        | no => rfl
      · rfl
    | ex c' S1 => rfl
    | no => rfl
theorem sWhile_eq {c : IT} {b : IS} {ρ : Env} {S : Sto} {n : Nat} (h : whF c b n ρ S ≠ .no) : sWhile c b ρ S = whF c b n ρ S := by
  have hx : ∃ n, whF c b n ρ S ≠ .no := ⟨n, h⟩
  unfold sWhile
  rw [dif_pos hx]
  have h2 := hx.choose_spec
  rcases Nat.le_total n hx.choose with h3 | h3
  · exact whF_mono h3 h
  · exact (whF_mono h3 h2).symm
theorem while_rule {c : IT} {body : IS} {G : O → Prop} (hno : ¬ G .no) (W : Nat → Env → Sto → Prop) (hs : ∀ m ρ S, W m ρ S → ∃ b S1, c ρ S = .ok b S1 ∧ (b = false → G (.nx ρ S1)) ∧ (b = true → gO G (fun ρ2 S2 => ∃ m', m' < m ∧ W m' ρ2 S2) (body ρ S1)))
    {m : Nat} {ρ : Env} {S : Sto} (h : W m ρ S) : G (sWhile c body ρ S) := by
  have key : ∀ (m : Nat) (ρ : Env) (S : Sto), W m ρ S → ∃ n, G (whF c body n ρ S) := by
    intro m
    induction m using Nat.strongRecOn with
    | _ m ih =>
      intro ρ S h
      obtain ⟨b, S1, h1, h2, h3⟩ := hs m ρ S h
      cases b with
      | false => exact ⟨1, by simp only [whF, h1, R.toO_ok]; exact h2 rfl⟩
      | true =>
        have h4 := h3 rfl
        cases hb : body ρ S1 with
        | nx ρ2 S2 =>
          rw [hb] at h4
          obtain ⟨m', hm, w⟩ := h4
          obtain ⟨n, hn⟩ := ih m' hm ρ2 S2 w
          exact ⟨n + 1, by simp only [whF, h1, R.toO_ok, if_true, hb, O.seq_nx]; exact hn⟩
        | rt v S2 => rw [hb] at h4; exact ⟨1, by simp only [whF, h1, R.toO_ok, if_true, hb, O.seq_rt]; exact h4⟩
        | ex e ρ2 S2 => rw [hb] at h4; exact ⟨1, by simp only [whF, h1, R.toO_ok, if_true, hb, O.seq_ex]; exact h4⟩
        | no => rw [hb] at h4; exact absurd h4 hno
  obtain ⟨n, hn⟩ := key m ρ S h
  rw [sWhile_eq (n := n) (fun z => by rw [z] at hn; exact hno hn)]
  exact hn
/-! ### comprehensions -/
/-- each item's value; the store grows by garbage -/
theorem lc_grow {chk : Sto → Bool} {tg : IG} {tt : IT} {ie : IE} {ρ : Env} {S : Sto} (p : It1 → Bool) (f : It1 → Va) (hc : ∀ T, chk (S ++ T) = true) : ∀ (its : List It1) (T : Sto),
    (∀ it ∈ its, ∀ T, ∃ ρ1 T1, tg it ρ (S ++ T) = .ok ρ1 (S ++ T) ∧ tt ρ1 (S ++ T) = .ok (p it) (S ++ T1) ∧ (p it = true → ∃ T2, ie ρ1 (S ++ T1) = .ok (f it) (S ++ T2))) →
    ∃ T', lcL chk tg tt ie ρ its (S ++ T) = .ok ((its.filter p).map f) (S ++ T')
  | [], T, _ => ⟨T, by simp [lcL, hc]⟩
  | it :: r, T, h => by
    obtain ⟨ρ1, T1, h1, h2, h3⟩ := h it List.mem_cons_self T
    cases hp : p it with
    | false =>
      obtain ⟨T', ih⟩ := lc_grow p f hc r T1 fun it' h' => h it' (List.mem_cons_of_mem _ h')
      exact ⟨T', by simp [lcL, hc, h1, h2, hp, ih]⟩
    | true =>
      obtain ⟨T2, h4⟩ := h3 hp
      obtain ⟨T', ih⟩ := lc_grow p f hc r T2 fun it' h' => h it' (List.mem_cons_of_mem _ h')
      exact ⟨T', by simp [lcL, hc, h1, h2, hp, h4, ih]⟩
/-- .. where the store stays as it is -/
theorem lc_pure {chk : Sto → Bool} {tg : IG} {tt : IT} {ie : IE} {ρ : Env} {S : Sto} (p : It1 → Bool) (f : It1 → Va) (hc : chk S = true) : ∀ (its : List It1),
    (∀ it ∈ its, ∃ ρ1, tg it ρ S = .ok ρ1 S ∧ tt ρ1 S = .ok (p it) S ∧ (p it = true → ie ρ1 S = .ok (f it) S)) → lcL chk tg tt ie ρ its S = .ok ((its.filter p).map f) S
  | [], _ => by simp [lcL, hc]
  | it :: r, h => by
    obtain ⟨ρ1, h1, h2, h3⟩ := h it List.mem_cons_self
    have ih := lc_pure p f hc r fun it' h' => h it' (List.mem_cons_of_mem _ h')
    cases hp : p it with
    | false => simp [lcL, hc, h1, h2, hp, ih]
    | true => simp [lcL, hc, h1, h2, hp, h3 hp, ih]
theorem lc_run {ii : II} {tg : IG} {tt : IT} {ie : IE} {vs : List Nat} {ρ : Env} {S : Sto} {its : List It1} {chk : Sto → Bool} (hi : ii ρ S = .ok ⟨its, chk⟩ S) (hl : its.length ≤ 100000) (hc : ∀ T, chk (S ++ T) = true) (p : It1 → Bool) (f : It1 → Va)
    (hs : ∀ it ∈ its, ∀ T, ∃ ρ1 T1, tg it (wipeE ρ vs) (S ++ T) = .ok ρ1 (S ++ T) ∧ tt ρ1 (S ++ T) = .ok (p it) (S ++ T1) ∧ (p it = true → ∃ T2, ie ρ1 (S ++ T1) = .ok (f it) (S ++ T2))) :
    ∃ T' n, iLc ii tg tt ie vs ρ S = .ok (.ref n) (S ++ T') ∧ ∀ T, (S ++ (T' ++ T))[n]? = some (.lst ((its.filter p).map f)) := by
  obtain ⟨T', h⟩ := lc_grow p f hc its [] hs
  rw [List.append_nil] at h
  refine ⟨T' ++ [.lst ((its.filter p).map f)], (S ++ T').length, ?_, fun T => ?_⟩
  · simp only [iLc, hi, R.bind_ok, hl, if_true, h, R.bindN_ok, List.append_assoc]
  · rw [List.append_assoc, ← List.append_assoc S T']
    exact get_n0
theorem lc_run0 {ii : II} {tg : IG} {tt : IT} {ie : IE} {vs : List Nat} {ρ : Env} {S : Sto} {its : List It1} {chk : Sto → Bool} (hi : ii ρ S = .ok ⟨its, chk⟩ S) (hl : its.length ≤ 100000) (hc : chk S = true) (p : It1 → Bool) (f : It1 → Va)
    (hs : ∀ it ∈ its, ∃ ρ1, tg it (wipeE ρ vs) S = .ok ρ1 S ∧ tt ρ1 S = .ok (p it) S ∧ (p it = true → ie ρ1 S = .ok (f it) S)) :
    iLc ii tg tt ie vs ρ S = .ok (.ref S.length) (S ++ [.lst ((its.filter p).map f)]) := by
  have h := lc_pure p f hc its hs
  simp only [iLc, hi, R.bind_ok, hl, if_true, h, R.bindN_ok]
theorem Paired.of_get {α β : Type} {F : α → β → Prop} : ∀ {xs : List α} {ys : List β}, xs.length = ys.length → (∀ (k : Nat) x y, xs[k]? = some x → ys[k]? = some y → F x y) → Paired F xs ys
  | [], [], _, _ => .nil
  | [], y :: ys, h, _ => by simp at h
  | x :: xs, [], h, _ => by simp at h
  | x :: xs, y :: ys, h, f => .cons (f 0 x y rfl rfl) (Paired.of_get (by simpa using h) fun k a b h1 h2 => f (k + 1) a b (by simpa using h1) (by simpa using h2))
/-- one turn of a comprehension: none where the test says no -/
def LcQ (tg : IG) (tt : IT) (ie : IE) (ρ : Env) (S : Sto) (it : It1) (o : Option Va) : Prop :=
  ∀ T, ∃ ρ1 T1, tg it ρ (S ++ T) = .ok ρ1 (S ++ T) ∧ tt ρ1 (S ++ T) = .ok o.isSome (S ++ T1) ∧ ∀ y, o = some y → ∃ T2, ie ρ1 (S ++ T1) = .ok y (S ++ T2)
theorem lcr_grow {chk : Sto → Bool} {tg : IG} {tt : IT} {ie : IE} {ρ : Env} {S : Sto} (hc : ∀ T, chk (S ++ T) = true) : ∀ {its : List It1} {os : List (Option Va)} (T : Sto), Paired (LcQ tg tt ie ρ S) its os → ∃ T', lcL chk tg tt ie ρ its (S ++ T) = .ok (os.filterMap id) (S ++ T')
  | _, _, T, .nil => ⟨T, by simp [lcL, hc]⟩
  | _, _, T, .cons (a := it) (b := o) q r => by
    obtain ⟨ρ1, T1, h1, h2, h3⟩ := q T
    cases o with
    | none =>
      obtain ⟨T', ih⟩ := lcr_grow hc T1 r
      exact ⟨T', by simp [lcL, hc, h1, h2, ih]⟩
    | some y =>
      obtain ⟨T2, h4⟩ := h3 y rfl
      obtain ⟨T', ih⟩ := lcr_grow hc T2 r
      exact ⟨T', by simp [lcL, hc, h1, h2, h4, ih]⟩
theorem lcr_run {ii : II} {tg : IG} {tt : IT} {ie : IE} {vs : List Nat} {ρ : Env} {S : Sto} {its : List It1} {os : List (Option Va)} {chk : Sto → Bool} (hi : ii ρ S = .ok ⟨its, chk⟩ S) (hl : its.length ≤ 100000) (hc : ∀ T, chk (S ++ T) = true) (hs : Paired (LcQ tg tt ie (wipeE ρ vs) S) its os) :
    ∃ T' n, iLc ii tg tt ie vs ρ S = .ok (.ref n) (S ++ T') ∧ S.length ≤ n ∧ ∀ T, (S ++ (T' ++ T))[n]? = some (.lst (os.filterMap id)) := by
  obtain ⟨T', h⟩ := lcr_grow hc [] hs
  rw [List.append_nil] at h
  refine ⟨T' ++ [.lst (os.filterMap id)], (S ++ T').length, ?_, by simp, fun T => ?_⟩
  · simp only [iLc, hi, R.bind_ok, hl, if_true, h, R.bindN_ok, List.append_assoc]
  · rw [List.append_assoc, ← List.append_assoc S T']
    exact get_n0
/-- .. nothing laid on the way -/
def LcP (tg : IG) (tt : IT) (ie : IE) (ρ : Env) (S : Sto) (it : It1) (o : Option Va) : Prop := ∃ ρ1, tg it ρ S = .ok ρ1 S ∧ tt ρ1 S = .ok o.isSome S ∧ ∀ y, o = some y → ie ρ1 S = .ok y S
theorem lcr_pure {chk : Sto → Bool} {tg : IG} {tt : IT} {ie : IE} {ρ : Env} {S : Sto} (hc : chk S = true) : ∀ {its : List It1} {os : List (Option Va)}, Paired (LcP tg tt ie ρ S) its os → lcL chk tg tt ie ρ its S = .ok (os.filterMap id) S
  | _, _, .nil => by simp [lcL, hc]
  | _, _, .cons (a := it) (b := o) q r => by
    obtain ⟨ρ1, h1, h2, h3⟩ := q
    have ih := lcr_pure hc r
    cases o with
    | none => simp [lcL, hc, h1, h2, ih]
    | some y => simp [lcL, hc, h1, h2, h3 y rfl, ih]
theorem lcr_run0 {ii : II} {tg : IG} {tt : IT} {ie : IE} {vs : List Nat} {ρ : Env} {S : Sto} {its : List It1} {os : List (Option Va)} {chk : Sto → Bool} (hi : ii ρ S = .ok ⟨its, chk⟩ S) (hl : its.length ≤ 100000) (hc : chk S = true) (hs : Paired (LcP tg tt ie (wipeE ρ vs) S) its os) :
    iLc ii tg tt ie vs ρ S = .ok (.ref S.length) (S ++ [.lst (os.filterMap id)]) := by
  have h := lcr_pure hc hs
  simp only [iLc, hi, R.bind_ok, hl, if_true, h, R.bindN_ok]
theorem fmap_some {α β : Type} (f : α → β) (l : List α) : (l.map fun x => some (f x)).filterMap id = l.map f := by
  induction l with
  | nil => rfl
  | cons x l ih => simp [ih]
theorem map_one_get {xs : List Va} {i : Nat} {it : It1} (h : (xs.map It1.one)[i]? = some it) : ∃ x, xs[i]? = some x ∧ it = .one x := by
  rw [List.getElem?_map] at h
  cases e : xs[i]? with
  | none => rw [e] at h; cases h
  | some x => rw [e] at h; exact ⟨x, rfl, (Option.some.inj h).symm⟩
theorem map_get {α β : Type} {f : α → β} {xs : List α} {i : Nat} {y : β} (h : (xs.map f)[i]? = some y) : ∃ x, xs[i]? = some x ∧ y = f x := by
  rw [List.getElem?_map] at h
  cases e : xs[i]? with
  | none => rw [e] at h; cases h
  | some x => rw [e] at h; exact ⟨x, rfl, (Option.some.inj h).symm⟩
theorem zip_get {α β : Type} : ∀ {xs : List α} {ys : List β} {i : Nat} {z : α × β}, (xs.zip ys)[i]? = some z → xs[i]? = some z.1 ∧ ys[i]? = some z.2
  | [], _, _, _, h => by simp at h
  | _ :: _, [], _, _, h => by simp at h
  | x :: xs, y :: ys, 0, z, h => by simp at h; subst h; exact ⟨rfl, rfl⟩
  | x :: xs, y :: ys, i + 1, z, h => by simpa using zip_get (xs := xs) (ys := ys) (i := i) (z := z) (by simpa using h)
theorem enuI_length : ∀ (k : Nat) (xs : List Va), (enuI k xs).length = xs.length
  | _, [] => rfl
  | k, x :: xs => by rw [enuI, List.length_cons, List.length_cons, enuI_length]
theorem enuI_get : ∀ (k : Nat) (xs : List Va) (i : Nat) (it : It1), (enuI k xs)[i]? = some it → ∃ x, xs[i]? = some x ∧ it = .tup [.int ((k + i : Nat) : Int), x]
  | _, [], i, e, h => by simp [enuI] at h
  | k, d :: ds, 0, e, h => by simp [enuI] at h; exact ⟨d, rfl, by rw [← h]; simp⟩
  | k, d :: ds, i + 1, e, h => by
    rw [enuI, List.getElem?_cons_succ] at h
    obtain ⟨d', h1, h2⟩ := enuI_get (k + 1) ds i e h
    exact ⟨d', by rw [List.getElem?_cons_succ]; exact h1, by rw [h2, show k + 1 + i = k + (i + 1) by omega]⟩
theorem zipI_length : ∀ (as bs : List Va), (zipI as bs).length = min as.length bs.length
  | [], bs => by simp [zipI]
  | a :: as, [] => by simp [zipI]
  | a :: as, b :: bs => by rw [zipI, List.length_cons, List.length_cons, List.length_cons, zipI_length]; omega
theorem zipI_get : ∀ (as bs : List Va) (i : Nat) (e : It1), (zipI as bs)[i]? = some e → ∃ a b, as[i]? = some a ∧ bs[i]? = some b ∧ e = .tup [a, b]
  | [], bs, i, e, h => by simp [zipI] at h
  | a :: as, [], i, e, h => by simp [zipI] at h
  | a :: as, b :: bs, 0, e, h => by simp [zipI] at h; exact ⟨a, b, rfl, rfl, h.symm⟩
  | a :: as, b :: bs, i + 1, e, h => by
    rw [zipI, List.getElem?_cons_succ] at h
    obtain ⟨x, y, h1, h2, h3⟩ := zipI_get as bs i e h
    exact ⟨x, y, by rw [List.getElem?_cons_succ]; exact h1, by rw [List.getElem?_cons_succ]; exact h2, h3⟩
theorem sameAt_self {S : Sto} {v : Va} : sameAt S v S = true := by cases v <;> simp [sameAt]
/-! ### data -/
def vN (n : Nat) : Va := .int (n : Int)
def LN (xs : List Nat) : Ob := .lst (xs.map vN)
theorem allO_map {α β : Type} {f : α → Option β} {g : α → β} : ∀ {xs : List α}, (∀ x ∈ xs, f x = some (g x)) → allO (xs.map f) = some (xs.map g)
  | [], _ => rfl
  | x :: xs, h => by
    rw [List.map_cons, h x List.mem_cons_self]
    unfold allO
    rw [allO_map fun y hy => h y (List.mem_cons_of_mem _ hy)]
    rfl
theorem asIs_N (xs : List Nat) : asIs (xs.map vN) = some (xs.map fun (x : Nat) => (x : Int)) := by
  unfold asIs
  rw [List.map_map]
  exact allO_map fun x _ => rfl
theorem asIs_I (xs : List Int) : asIs (xs.map .int) = some xs := by
  unfold asIs
  rw [List.map_map]
  have := allO_map (f := asI ∘ Va.int) (g := id) (xs := xs) fun x _ => rfl
  rw [this, List.map_id]
theorem asBs_B {α : Type} (f : α → Bool) (xs : List α) : asBs (xs.map fun x => Va.bl (f x)) = some (xs.map f) := by
  unfold asBs
  rw [List.map_map]
  exact allO_map fun x _ => rfl
theorem toP_N {k : Nat} {S : Sto} (xs : List Nat) : allO ((xs.map vN).map (toP k S)) = some (xs.map fun (x : Nat) => PyData.int (x : Int)) := by
  rw [List.map_map]
  exact allO_map fun x _ => by cases k <;> simp [vN, toP]
theorem toP_I {k : Nat} {S : Sto} (xs : List Int) : allO ((xs.map Va.int).map (toP k S)) = some (xs.map PyData.int) := by
  rw [List.map_map]
  exact allO_map fun x _ => by cases k <;> simp [toP]
theorem eqv_I : ∀ xs ys : List Int, PyData.eqvAll (xs.map PyData.int) (ys.map PyData.int) = decide (xs = ys)
  | [], [] => by simp [PyData.eqvAll]
  | [], y :: ys => by simp [PyData.eqvAll]
  | x :: xs, [] => by simp [PyData.eqvAll]
  | x :: xs, y :: ys => by
    rw [List.map_cons, List.map_cons, PyData.eqvAll, eqv_I xs ys, PyData.eqv]
    by_cases h : x = y <;> by_cases h2 : xs = ys <;> simp [h, h2]
theorem natInt_inj {xs ys : List Nat} : (xs.map fun (x : Nat) => (x : Int)) = (ys.map fun (x : Nat) => (x : Int)) ↔ xs = ys := by
  constructor
  · intro h
    exact (List.map_inj_right fun a b => by omega).mp h
  · rintro rfl; rfl
theorem eqv_N (xs ys : List Nat) : PyData.eqvAll (xs.map fun (x : Nat) => PyData.int (x : Int)) (ys.map fun (x : Nat) => PyData.int (x : Int)) = decide (xs = ys) := by
  have e : ∀ zs : List Nat, (zs.map fun (x : Nat) => PyData.int (x : Int)) = (zs.map fun (x : Nat) => (x : Int)).map PyData.int := fun zs => by rw [List.map_map]; rfl
  rw [e, e, eqv_I]
  by_cases h : xs = ys
  · subst h; simp
  · rw [decide_eq_false h, decide_eq_false (fun z => h (natInt_inj.mp z))]
theorem getL_ref {S : Sto} {p : Nat} {xs : List Va} (h : S[p]? = some (.lst xs)) : getL S (.ref p) = some xs := by simp [getL, h]
theorem getT_ref {S : Sto} {p : Nat} {xs : List Va} (h : S[p]? = some (.tup xs)) : getT S (.ref p) = some xs := by simp [getT, h]
theorem getL_tup {S : Sto} {p : Nat} {xs : List Va} (h : S[p]? = some (.tup xs)) : getL S (.ref p) = none := by simp [getL, h]
theorem getQ_lst {S : Sto} {p : Nat} {xs : List Va} (h : S[p]? = some (.lst xs)) : getQ S (.ref p) = some xs := by simp [getQ, getL, h]
theorem getQ_tup {S : Sto} {p : Nat} {xs : List Va} (h : S[p]? = some (.tup xs)) : getQ S (.ref p) = some xs := by simp [getQ, getL, getT, h]
theorem ixN_lt {n k : Nat} (h : k < n) : ixN n (k : Int) = some k := by
  unfold ixN
  rw [if_pos (by omega), if_pos (by omega)]
  simp
theorem atI_nat' {α : Type} {xs : List α} {k : Nat} {v : α} (h : xs[k]? = some v) : atI xs (k : Int) = some v := by
  unfold atI
  rw [ixN_lt (List.getElem?_eq_some_iff.mp h).1]
  exact h
theorem fIx_lst {S : Sto} {p k : Nat} {xs : List Va} {v : Va} (h : S[p]? = some (.lst xs)) (hk : xs[k]? = some v) : fIx (.ref p) (.int (k : Int)) S = .ok v S := by
  simp [fIx, getQ_lst h, atI_nat' hk]
theorem fIx_tup {S : Sto} {p k : Nat} {xs : List Va} {v : Va} (h : S[p]? = some (.tup xs)) (hk : xs[k]? = some v) : fIx (.ref p) (.int (k : Int)) S = .ok v S := by
  simp [fIx, getQ_tup h, atI_nat' hk]
theorem sameAt_app {S T : Sto} {p : Nat} {o : Ob} (h : S[p]? = some o) : sameAt S (.ref p) (S ++ T) = true := by
  simp only [sameAt, decide_eq_true_eq, get_app h, h]
theorem sameAt_app2 {S T T' : Sto} {p : Nat} {o : Ob} (h : S[p]? = some o) : sameAt (S ++ T) (.ref p) (S ++ T') = true := by
  simp only [sameAt, decide_eq_true_eq, get_app h]
/-! tasks -/
def TpN (S : Sto) (v : Va) (t : Nat × Nat) : Prop := ∃ q, v = .ref q ∧ S[q]? = some (.tup [vN t.1, vN t.2])
def Tks (S : Sto) (vs : List Va) (ts : List (Nat × Nat)) : Prop := Paired (TpN S) vs ts
theorem TpN.app {S T : Sto} {v : Va} {t : Nat × Nat} (h : TpN S v t) : TpN (S ++ T) v t := let ⟨q, h1, h2⟩ := h; ⟨q, h1, get_app h2⟩
theorem Tks.app {S T : Sto} {vs : List Va} {ts : List (Nat × Nat)} (h : Tks S vs ts) : Tks (S ++ T) vs ts := Paired.imp (fun _ _ q => TpN.app q) h
end IL

end
section
set_option Elab.async false
set_option linter.all false
set_option maxRecDepth 100000
set_option maxHeartbeats 2000000
namespace IL
open PySem L2
/-! ### targets -/
def ItR (g : Gm) (ι : List Addr) (H : Hp) : It1 → V → Prop
  | .one x, v => VR g ι x v
  | .tup xs, v => ∃ T vs, v = .ref T ∧ H T = some (.tup vs) ∧ VRs g ι xs vs
def SdG (g : Gm) (W : WH) (gt : TG) (tg : IG) : Prop := ∀ ι S ρ σ H it v (Q : St → Hp → Prop), Sim g ι S H → ER g ι ρ σ → ItR g ι H it v → P g ι H (W · σ) (fun ρ' ι' H' => ∀ σ', ER g ι' ρ' σ' → Q σ' H') (tg it ρ S) → gt v σ H Q
def SdGs (g : Gm) (W : WH) (gt : TGs) (tgs : List IG) : Prop := ∀ ι S ρ σ H xs vs (Q : St → Hp → Prop), Sim g ι S H → ER g ι ρ σ → VRs g ι xs vs → P g ι H (fun c H' => ∀ σ', W c σ' H') (fun ρ' ι' H' => ∀ σ', ER g ι' ρ' σ' → Q σ' H') (runTgs tgs xs ρ S) → gt vs σ H Q
section
variable {g : Gm} {W : WH} {ι : List Addr} {S : Sto} {H : Hp} {ta tb te : TE} {ia ib ie : IE}
theorem sg_name {j : Nat} : SdG g W (gName j) (tgName j) := fun ι S ρ σ H it v Q s e r h => by
  cases it with
  | one x => exact h _ _ (Ext.refl _ _) s _ (e.set j r)
  | tup xs => exact h.elim
theorem setL_ok {α : Type} {T : α → List Addr → Hp → Prop} {W' : Str → Hp → Prop} {k : Unit → Sto → R α} {o i x : Va} {vo vi v : V} {Q : Hp → Prop} (s : Sim g ι S H) (ho : VR g ι o vo) (hi : VR g ι i vi) (hv : VR g ι x v) (h : P g ι H W' T ((setL o i x S).bind k))
    (f : ∀ S' H', Ext ι H ι H' → Sim g ι S' H' → P g ι H' W' T (k () S') → Q H') : rSetL vo vi v H Q := by
  unfold setL at h
  split at h
  · rename_i n z
    split at h
    · rename_i xs ex
      split at h
      · rename_i j ej
        obtain ⟨a, rfl, ea, vs, hp, rp⟩ := s.ref ex ho
        cases hi
        refine ⟨a, vs, z, j, rfl, rfl, hp, by rw [← Paired.len rp]; exact ej, ?_⟩
        exact f _ _ (Ext.put ea (notFrz_lst hp)) (s.putL ea hp (Paired.set hv j rp)) (P.le (Ext.put ea (notFrz_lst hp)) h)
      · exact h.elim
    · exact h.elim
  · exact h.elim
theorem sg_sub {to ti : TE} {io ii : IE} (ho : SdE g W to io) (hi : SdE g W ti ii) : SdG g W (gSub to ti rSetL) (tgSub io ii) := fun ι S ρ σ H it v Q s e r h => by
  cases it with
  | one x =>
    refine ho ι ρ S σ H _ s e (h.then fun y ι1 S1 H1 l s1 h1 u vy => hi ι1 ρ S1 σ H1 _ s1 (e.mono l.le) (h1.then fun z ι2 S2 H2 l2 s2 h2 w vz => ?_))
    refine setL_ok s2 (vy.mono l2.le) vz ((VR.mono l.le r).mono l2.le) h2 fun S3 H3 l3 s3 h3 => ?_
    exact h3 _ _ (Ext.refl _ _) s3 _ (e.mono (l.trans l2).le)
  | tup xs => exact h.elim
theorem sgs_nil : SdGs g W gNil [] := fun ι S ρ σ H xs vs Q s e r h => by
  cases r with
  | nil => exact ⟨rfl, h _ _ (Ext.refl _ _) s _ e⟩
  | cons a b => exact h.elim
theorem P.wmono {α : Type} {W W' : Str → Hp → Prop} {T : α → List Addr → Hp → Prop} {r : R α} (h : P g ι H W T r) (f : ∀ c H, W c H → W' c H) : P g ι H W' T r := by
  cases r with
  | ok x S' => exact h
  | ex c S' => exact fun ι' H' l s => f _ _ (h ι' H' l s)
  | no => exact h
theorem sgs_cons {gt : TG} {gs : TGs} {tg : IG} {tgs : List IG} (h1 : SdG g W gt tg) (h2 : SdGs g W gs tgs) : SdGs g W (gCons gt gs) (tg :: tgs) := fun ι S ρ σ H xs vs Q s e r h => by
  cases r with
  | nil => exact h.elim
  | @cons x v xs vs q t =>
    refine ⟨v, vs, rfl, h1 ι S ρ σ H (.one x) v _ s e q ?_⟩
    exact (h.then fun ρ1 ι1 S1 H1 l s1 h3 σ1 e1 => h2 ι1 S1 ρ1 σ1 H1 xs vs Q s1 e1 (VRs.mono l.le t) h3).wmono fun c H z => z σ
theorem runTgs_ne : ∀ (ts : List IG) (vs : List Va) (ρ : Env) (S : Sto), ts.length ≠ vs.length → (runTgs ts vs ρ S = .no ∨ ∃ c S', runTgs ts vs ρ S = .ex c S')
  | [], [], _, _, h => (h rfl).elim
  | [], v :: vs, _, _, _ => .inl rfl
  | t :: ts, [], _, _, _ => .inl rfl
  | t :: ts, v :: vs, ρ, S, h => by
    show ((t (.one v) ρ S).bind fun ρ1 S1 => runTgs ts vs ρ1 S1) = .no ∨ ∃ c S', ((t (.one v) ρ S).bind fun ρ1 S1 => runTgs ts vs ρ1 S1) = .ex c S'
    cases t (.one v) ρ S with
    | ok ρ1 S1 => exact runTgs_ne ts vs ρ1 S1 (by simpa using h)
    | ex c S1 => exact .inr ⟨c, S1, rfl⟩
    | no => exact .inl rfl
/-- names alone -/
def gNs : List Nat → TGs
  | [] => gNil
  | j :: js => gCons (gName j) (gNs js)
theorem sg_tup {n : Nat} {gs : TGs} {tgs : List IG} (h1 : SdGs g W0 gs tgs) : SdG g W0 (gTup g.K n gs) (tgTupN n tgs) := fun ι S ρ σ H it v Q s e r h => by
  cases it with
  | one x =>
    simp only [tgTupN] at h
    cases ex : getT S x with
    | none => rw [ex] at h; exact h.elim
    | some xs =>
      rw [ex] at h
      dsimp only at h
      split at h
      · rename_i hn
        obtain ⟨a, vs, rfl, ha, rv⟩ := getT_ok s r ex
        exact ⟨a, vs, rfl, SqT.of ha, by rw [← Paired.len rv]; exact hn, h1 ι S ρ σ H xs vs Q s e rv (h.wmono fun c H z => z.elim)⟩
      · exact h.elim
  | tup xs =>
    obtain ⟨T, vs, rfl, hT, rv⟩ := r
    simp only [tgTupN] at h
    split at h
    · rename_i hn
      exact ⟨T, vs, rfl, SqT.of hT, by rw [← Paired.len rv]; exact hn, h1 ι S ρ σ H xs vs Q s e rv (h.wmono fun c H z => z.elim)⟩
    · exact h.elim
/-! ### what is walked -/
/-- the walk J yields the items, as long as chk holds -/
def Wk (g : Gm) (ι : List Addr) (H : Hp) (J : It) (I : Its) : Prop := ∃ G Y, Walk J I.items.length G Y ∧ (∀ ι' S' H', Le ι ι' → Frz H H' → Sim g ι' S' H' → I.chk S' = true → G H') ∧
  ∀ i it ι' S' H1 x H2, I.items[i]? = some it → Le ι ι' → Frz H H1 → Sim g ι' S' H1 → I.chk S' = true → Y i H1 x H2 → Sim g ι' S' H2 ∧ Ext ι' H1 ι' H2 ∧ ItR g ι' H2 it x
def SdI (g : Gm) (W : WH) (wi : TI) (ii : II) : Prop := ∀ ι ρ S σ H (R : It → Hp → Prop), Sim g ι S H → ER g ι ρ σ → P g ι H (W · σ) (fun I ι' H' => ∀ J, Wk g ι' H' J I → R J H') (ii ρ S) → wi σ H R
theorem VR.fn {ι' : List Addr} {x : Va} {v w : V} (l : Le ι ι') (h : VR g ι x v) (h' : VR g ι' x w) : w = v := by
  cases x with
  | ref n =>
    obtain ⟨a, h1, rfl⟩ := h
    obtain ⟨b, h2, rfl⟩ := h'
    rw [l n a h1] at h2; cases h2; rfl
  | scr ns => exact h'.1.trans h.1.symm
  | exc c =>
    obtain ⟨a, h1, rfl⟩ := h
    obtain ⟨b, h2, rfl⟩ := h'
    rw [h1] at h2; cases h2; rfl
  | _ => exact h'.trans h.symm
theorem VRs.fn {ι' : List Addr} {xs : List Va} {vs ws : List V} (l : Le ι ι') (h : VRs g ι xs vs) (h' : VRs g ι' xs ws) : ws = vs := by
  induction h generalizing ws with
  | nil => cases h'; rfl
  | cons q t ih =>
    cases h' with
    | cons q' t' => rw [VR.fn l q q', ih t']
theorem sameAt_L (s : Sim g ι S H) {x : Va} {xs : List Va} {a : Addr} {vs : List V} (vx : VR g ι x (.ref a)) (e : getL S x = some xs) (r : VRs g ι xs vs) {ι' : List Addr} {S' : Sto} {H' : Hp} (l : Le ι ι') (s' : Sim g ι' S' H') (hc : sameAt S x S' = true) : SqL g.K H' a vs := by
  have e' : getL S' x = some xs := by
    cases x with
    | ref n => rw [← e]; simp only [sameAt, decide_eq_true_eq] at hc; simp only [getL, hc]
    | scr ns => exact e
    | _ => cases e
  obtain ⟨b, ws, h1, h2, h3⟩ := getL_ok s' (vx.mono l) e'
  cases h1
  rw [VRs.fn l r h3] at h2
  exact h2
theorem sameAt_T (s : Sim g ι S H) {x : Va} {xs : List Va} {a : Addr} {vs : List V} (vx : VR g ι x (.ref a)) (e : getT S x = some xs) (r : VRs g ι xs vs) {ι' : List Addr} {S' : Sto} {H' : Hp} (l : Le ι ι') (s' : Sim g ι' S' H') (hc : sameAt S x S' = true) : SqT g.K H' a vs := by
  have e' : getT S' x = some xs := by
    cases x with
    | ref n => rw [← e]; simp only [sameAt, decide_eq_true_eq] at hc; simp only [getT, hc]
    | _ => cases e
  obtain ⟨b, ws, h1, h2, h3⟩ := getT_ok s' (vx.mono l) e'
  cases h1
  rw [VRs.fn l r h3] at h2
  exact SqT.of h2
theorem si_list (ha : SdE g W ta ia) : SdI g W (iList g.K ta) (itList ia) := fun ι ρ S σ H R s e h =>
  ha ι ρ S σ H _ s e (h.then fun x ι1 S1 H1 l s1 h1 v vx => by
    try dsimp only at h1
    split at h1
    · rename_i xs ex
      obtain ⟨a, vs, rfl, hq, r⟩ := getL_ok s1 vx ex
      have wk : Walk (Itl g.K a) (xs.map It1.one).length (fun H => SqL g.K H a vs) (YAt vs) := by
        rw [List.length_map, Paired.len r]; exact walk_list (xs := vs)
      refine ⟨a, rfl, ⟨vs, hq⟩, h1 _ _ (Ext.refl _ _) s1 _ ⟨_, _, wk, fun ι' S' H' l' f' s' hc => sameAt_L s1 vx ex r l' s' hc, fun i it ι' S' H2 y H3 e1 l' f' s' hc hy => ?_⟩⟩
      obtain ⟨z1, z2⟩ := hy
      subst z1
      obtain ⟨y', e2, rfl⟩ := map_one_get e1
      obtain ⟨w, e3, e4⟩ := Paired.get r e2
      rw [e3] at z2; cases z2
      exact ⟨s', Ext.refl _ _, e4.mono l'⟩
    · exact h1.elim)
theorem si_tup (ha : SdE g W ta ia) : SdI g W (L2.iTup g.K ta) (itTup ia) := fun ι ρ S σ H R s e h =>
  ha ι ρ S σ H _ s e (h.then fun x ι1 S1 H1 l s1 h1 v vx => by
    try dsimp only at h1
    split at h1
    · rename_i xs ex
      obtain ⟨a, vs, rfl, hq, r⟩ := getT_ok s1 vx ex
      have wk : Walk (Itt g.K a) (xs.map It1.one).length (fun H => SqT g.K H a vs) (YAt vs) := by
        rw [List.length_map, Paired.len r]; exact walk_tup (xs := vs)
      refine ⟨a, rfl, ⟨vs, SqT.of hq⟩, h1 _ _ (Ext.refl _ _) s1 _ ⟨_, _, wk, fun ι' S' H' l' f' s' hc => sameAt_T s1 vx ex r l' s' hc, fun i it ι' S' H2 y H3 e1 l' f' s' hc hy => ?_⟩⟩
      obtain ⟨z1, z2⟩ := hy
      subst z1
      obtain ⟨y', e2, rfl⟩ := map_one_get e1
      obtain ⟨w, e3, e4⟩ := Paired.get r e2
      rw [e3] at z2; cases z2
      exact ⟨s', Ext.refl _ _, e4.mono l'⟩
    · exact h1.elim)
theorem rng_get {b : Int} {i : Nat} {k : Int} (h : (rng 0 b)[i]? = some k) : k = (i : Int) := by
  unfold rng at h
  rw [List.getElem?_map] at h
  cases e : (List.range (b - 0).toNat)[i]? with
  | none => rw [e] at h; cases h
  | some x =>
    rw [e] at h
    obtain ⟨h1, h2⟩ := List.getElem?_eq_some_iff.mp e
    rw [List.getElem_range] at h2
    have h3 : (0 : Int) + (x : Int) = k := Option.some.inj h
    omega
theorem rng_length (a b : Int) : (rng a b).length = (b - a).toNat := by unfold rng; rw [List.length_map, List.length_range]
theorem si_rng (ha : SdE g W ta ia) : SdI g W (iRng1 (tCons ta tNil)) (itRng ia) := fun ι ρ S σ H R s e h =>
  ha ι ρ S σ H _ s e (h.then fun x ι1 S1 H1 l s1 h1 v vx => by
    try dsimp only at h1
    split at h1
    · rename_i n
      split at h1
      · rename_i hn
        cases vx
        have wk : Walk (Itr 0 n.toNat) ((rng 0 n).map fun i => It1.one (.int i)).length (fun _ => True) (YFn fun i => .int (0 + i)) := by
          rw [List.length_map, rng_length, Int.sub_zero]; exact walk_range
        refine ⟨n, rfl, by omega, by omega, h1 _ _ (Ext.refl _ _) s1 _ ⟨_, _, wk, fun ι' S' H' l' f' s' hc => trivial, fun i it ι' S' H2 y H3 e1 l' f' s' hc hy => ?_⟩⟩
        obtain ⟨z1, z2⟩ := hy
        subst z1
        have e1' : ((rng 0 n).map fun i => It1.one (.int i))[i]? = some it := e1
        rw [List.getElem?_map] at e1'
        cases e2 : (rng 0 n)[i]? with
        | none => rw [e2] at e1'; cases e1'
        | some k =>
          rw [e2] at e1'
          have e3 := (Option.some.inj e1').symm
          subst e3
          refine ⟨s', Ext.refl _ _, ?_⟩
          show y = V.int k
          rw [z2, rng_get e2]
          show V.int (0 + (i : Int)) = _
          rw [Int.zero_add]
      · exact h1.elim
    · exact h1.elim)
theorem si_enum (ha : SdE g W ta ia) : SdI g W (iEnum g.K (tCons ta tNil)) (itEnum ia) := fun ι ρ S σ H R s e h =>
  ha ι ρ S σ H _ s e (h.then fun x ι1 S1 H1 l s1 h1 v vx => by
    try dsimp only at h1
    split at h1
    · rename_i xs ex
      obtain ⟨a, vs, rfl, hq, r⟩ := getL_ok s1 vx ex
      have wk : Walk (Ite g.K a) (enuI 0 xs).length (fun H => SqL g.K H a vs) (YPair (fun i => some (.int (i : Nat))) (fun i => vs[i]?)) := by
        rw [enuI_length, Paired.len r]; exact walk_enum (xs := vs)
      refine ⟨a, vs, rfl, hq, h1 _ _ (Ext.refl _ _) s1 _ ⟨_, _, wk, fun ι' S' H' l' f' s' hc => sameAt_L s1 vx ex r l' s' hc, fun i it ι' S' H2 y H3 e1 l' f' s' hc hy => ?_⟩⟩
      obtain ⟨T, x1, y1, rfl, hT, rfl, z1, z2⟩ := hy
      obtain ⟨x', e2, rfl⟩ := enuI_get 0 xs i it e1
      obtain ⟨w, e3, e4⟩ := Paired.get r e2
      have z2' : vs[i]? = some y1 := z2
      rw [e3] at z2'; cases z1; cases z2'
      exact ⟨s'.more hT, Ext.new hT, T, _, rfl, upd_same, .cons (by rw [Nat.zero_add]; rfl) (.cons (e4.mono l') .nil)⟩
    · exact h1.elim)
theorem si_zip (ha : SdE g W ta ia) (hb : SdE g W tb ib) : SdI g W (iZip g.K (tCons ta (tCons tb tNil))) (itZip ia ib) := fun ι ρ S σ H R s e h =>
  ha ι ρ S σ H _ s e (h.then fun x ι1 S1 H1 l s1 h1 v vx => hb ι1 ρ S1 σ H1 _ s1 (e.mono l.le) (h1.then fun y ι2 S2 H2 l2 s2 h2 u vy => by
    try dsimp only at h2
    split at h2
    · rename_i xs ys ex ey
      have vx2 := vx.mono l2.le
      obtain ⟨a, vs, rfl, hq, r⟩ := getL_ok s2 vx2 ex
      obtain ⟨b, ws, rfl, hq', r'⟩ := getL_ok s2 vy ey
      have wk : Walk (Itz g.K a b) (zipI xs ys).length (fun H => SqL g.K H a vs ∧ SqL g.K H b ws) (YPair (fun i => vs[i]?) (fun i => ws[i]?)) :=
        walk_zip (by rw [zipI_length, Paired.len r, Paired.len r'])
      refine ⟨a, b, vs, ws, rfl, hq, hq', h2 _ _ (Ext.refl _ _) s2 _ ⟨_, _, wk, fun ι' S' H' l' f' s' hc => ?_, fun i it ι' S' H3 z H4 e1 l' f' s' hc hy => ?_⟩⟩
      · have hc' : (sameAt S2 x S' && sameAt S2 y S') = true := hc
        rw [Bool.and_eq_true] at hc'
        exact ⟨sameAt_L s2 vx2 ex r l' s' hc'.1, sameAt_L s2 vy ey r' l' s' hc'.2⟩
      · obtain ⟨T, x1, y1, rfl, hT, rfl, z1, z2⟩ := hy
        obtain ⟨x', y', e2, e5, rfl⟩ := zipI_get xs ys i it e1
        obtain ⟨w, e3, e4⟩ := Paired.get r e2
        obtain ⟨w', e6, e7⟩ := Paired.get r' e5
        have z1' : vs[i]? = some x1 := z1
        have z2' : ws[i]? = some y1 := z2
        rw [e3] at z1'; rw [e6] at z2'; cases z1'; cases z2'
        exact ⟨s'.more hT, Ext.new hT, T, _, rfl, upd_same, .cons (e4.mono l') (.cons (e7.mono l') .nil)⟩
    · exact h2.elim))
end
end IL

end
section
set_option Elab.async false
set_option linter.all false
set_option maxRecDepth 100000
set_option maxHeartbeats 2000000
namespace IL
open PySem L2
/-! ### statements -/
def PO (g : Gm) (ι : List Addr) (H : Hp) (W : WH) (D : Ends) : O → Prop
  | .nx ρ S => ∀ ι' σ' H', Ext ι H ι' H' → Sim g ι' S H' → ER g ι' ρ σ' → D.nx σ' H'
  | .rt x S => ∀ ι' v H', Ext ι H ι' H' → Sim g ι' S H' → VR g ι' x v → D.rt v H'
  | .ex c ρ S => ∀ ι' σ' H', Ext ι H ι' H' → Sim g ι' S H' → ER g ι' ρ σ' → W c σ' H'
  | .no => False
def SdS (g : Gm) (W : WH) (t : TS) (i : IS) : Prop := ∀ ι ρ S σ H (D : Ends), Sim g ι S H → ER g ι ρ σ → PO g ι H W D (i ρ S) → t D σ H
section
variable {g : Gm} {W : WH} {ι : List Addr} {S : Sto} {H : Hp} {ta tb te : TE} {ia ib ie : IE} {t u : TS} {i j : IS} {D : Ends} {ρ : Env} {σ : St}
theorem PO.le {ι' : List Addr} {H' : Hp} {o : O} (l : Ext ι H ι' H') (h : PO g ι H W D o) : PO g ι' H' W D o := by
  cases o with
  | nx ρ S => exact fun a b c l2 => h a b c (l.trans l2)
  | rt ρ S => exact fun a b c l2 => h a b c (l.trans l2)
  | ex c ρ S => exact fun a b c l2 => h a b c (l.trans l2)
  | no => exact h
theorem PO.then {α : Type} {r : R α} {k : α → Sto → O} {T' : α → List Addr → Hp → Prop} (e : ER g ι ρ σ) (h : PO g ι H W D (r.toO ρ k)) (f : ∀ x ι' S' H', Ext ι H ι' H' → Sim g ι' S' H' → PO g ι' H' W D (k x S') → T' x ι' H') : P g ι H (W · σ) T' r := by
  cases r with
  | ok x S' => exact fun ι2 H2 l s => f x ι2 S' H2 l s (PO.le l h)
  | ex c S' => exact fun ι2 H2 l s => h ι2 σ H2 l s (e.mono l.le)
  | no => exact h
theorem ss_next : SdS g W tNext sNext := fun ι ρ S σ H D s e h => h _ _ _ (Ext.refl _ _) s e
theorem ss_seq (h1 : SdS g W t i) (h2 : SdS g W u j) : SdS g W (tSeq t u) (sSeq i j) := fun ι ρ S σ H D s e h => by
  refine h1 ι ρ S σ H { D with nx := u D } s e ?_
  have h' : PO g ι H W D ((i ρ S).seq j) := h
  cases hi : i ρ S with
  | nx ρ' S' => rw [hi] at h'; exact fun ι' σ' H' l s' e' => h2 ι' ρ' S' σ' H' D s' e' (PO.le l h')
  | rt v S' => rw [hi] at h'; exact h'
  | ex c ρ' S' => rw [hi] at h'; exact h'
  | no => rw [hi] at h'; exact h'
theorem ss_asg {gt : TG} {tg : IG} (he : SdE g W te ie) (hg : SdG g W gt tg) : SdS g W (tAsg te gt) (sAsg ie tg) := fun ι ρ S σ H D s e h =>
  he ι ρ S σ H _ s e (h.then e fun x ι1 S1 H1 l s1 h1 v vx => hg ι1 S1 ρ σ H1 (.one x) v _ s1 (e.mono l.le) vx (h1.then (e.mono l.le) fun ρ' ι2 S2 H2 l2 s2 h2 σ' e' => h2 _ _ _ (Ext.refl _ _) s2 e'))
theorem ss_par {a b : Nat} {tA : TA} {iA : IA} (ha : SdA g W tA iA) : SdS g W (tPar a b tA) (sPar a b iA) := fun ι ρ S σ H D s e h =>
  ha ι ρ S σ H _ s e (h.then e fun x ι1 S1 H1 l s1 h1 v vx => by
    try dsimp only at h1
    split at h1
    · obtain ⟨p, q, rfl, v1, v2⟩ := vrs2 vx
      exact ⟨p, q, rfl, h1 _ _ _ (Ext.refl _ _) s1 (((e.mono l.le).set a v1).set b v2)⟩
    · exact h1.elim)
theorem ss_par3 {a b c : Nat} {tA : TA} {iA : IA} (ha : SdA g W tA iA) : SdS g W (tPar3 a b c tA) (sPar3 a b c iA) := fun ι ρ S σ H D s e h =>
  ha ι ρ S σ H _ s e (h.then e fun x ι1 S1 H1 l s1 h1 v vx => by
    try dsimp only at h1
    split at h1
    · cases vx with
      | cons v1 r =>
        obtain ⟨p, q, rfl, v2, v3⟩ := vrs2 r
        exact ⟨_, p, q, rfl, h1 _ _ _ (Ext.refl _ _) s1 ((((e.mono l.le).set a v1).set b v2).set c v3)⟩
    · exact h1.elim)
theorem ss_expr (he : SdE g W te ie) : SdS g W (tDrop te) (sExpr ie) := fun ι ρ S σ H D s e h =>
  he ι ρ S σ H _ s e (h.then e fun x ι1 S1 H1 l s1 h1 v vx => h1 _ _ _ (Ext.refl _ _) s1 (e.mono l.le))
theorem ss_ret (he : SdE g W te ie) : SdS g W (tRet te) (sRet ie) := fun ι ρ S σ H D s e h =>
  he ι ρ S σ H _ s e (h.then e fun x ι1 S1 H1 l s1 h1 v vx => h1 _ _ _ (Ext.refl _ _) s1 vx)
theorem ss_retN : SdS g W tRetN sRetN := fun ι ρ S σ H D s e h => h _ _ _ (Ext.refl _ _) s rfl
theorem ss_if {tc : TT} {ic : IT} (hc : SdT g W tc ic) (h1 : SdS g W t i) (h2 : SdS g W u j) : SdS g W (tIfS tc t u) (sIf ic i j) := fun ι ρ S σ H D s e h =>
  hc ι ρ S σ H _ s e (h.then e fun x ι1 S1 H1 l s1 h3 => by
    cases x with
    | true => exact h1 ι1 ρ S1 σ H1 D s1 (e.mono l.le) h3
    | false => exact h2 ι1 ρ S1 σ H1 D s1 (e.mono l.le) h3)
/-- a raise where nothing is wished for -/
def tDead : TS := fun _ _ _ => False
theorem ps_dead {X : Cx} {st : Stmt} : PS X st tDead := ⟨fun _ _ _ _ _ _ h => h.elim⟩
theorem ss_dead {c : Str} : SdS g W0 tDead (sRaise c) := fun ι ρ S σ H D s e h => h _ _ _ (Ext.refl _ _) s e
theorem fr_put {f : Str} {d : Va} {v : V} {fs : List (Str × Va)} {vs : List (Str × V)} (h : VR g ι d v) (r : Paired (FR g ι) fs vs) : Paired (FR g ι) (putF f d fs) (L2.putF f v vs) := by
  induction r with
  | nil => exact .cons ⟨rfl, h⟩ .nil
  | @cons e kv fs vs q t ih =>
    obtain ⟨k, x⟩ := e
    obtain ⟨k2, w⟩ := kv
    obtain ⟨q1, q2⟩ := q
    dsimp only at q1 q2
    subst q1
    unfold putF L2.putF
    dsimp only
    by_cases hk : k2 = f
    · rw [if_pos hk, if_pos hk]
      exact .cons ⟨hk, h⟩ t
    · rw [if_neg hk, if_neg hk]
      exact .cons ⟨rfl, q2⟩ ih
theorem ss_fld {f : Str} (cl : Cl g) (na : ∀ c ∈ clsL, NoAttr g.K (g.γ c) f) (ho : SdE g W ta ia) (he : SdE g W te ie) : SdS g W (sFld g.K ta te f) (sFldSet ia f ie) := fun ι ρ S σ H D s e h =>
  he ι ρ S σ H _ s e (h.then e fun x ι1 S1 H1 l s1 h1 v vx => ho ι1 ρ S1 σ H1 _ s1 (e.mono l.le) (h1.then (e.mono l.le) fun y ι2 S2 H2 l2 s2 h2 w vy => by
    try dsimp only at h2
    split at h2
    · rename_i n
      split at h2
      · rename_i c fs eo
        split at h2
        · rename_i hc
          obtain ⟨p, rfl, ep, dx, vs, hp, rp⟩ := s2.ref eo vy
          refine ⟨p, _, dx, vs, rfl, hp, cl.cls c hc.1, na c hc.1, by rw [← Paired.len rp]; omega, ?_⟩
          exact h2 _ _ _ (Ext.put ep (.of hp rfl)) (s2.put ep (.of hp rfl) ⟨dx, _, upd_same, fr_put (vx.mono l2.le) rp⟩) (e.mono (l.trans l2).le)
        · exact h2.elim
      · exact h2.elim
    · exact h2.elim))
theorem ss_dset {td tk : TE} {id ik : IE} (hd : SdE g W td id) (hk : SdE g W tk ik) (he : SdE g W te ie) : SdS g W (sDPut td tk te) (sDSet id ik ie) := fun ι ρ S σ H D s e h =>
  he ι ρ S σ H _ s e (h.then e fun x ι1 S1 H1 l s1 h1 v vx => hd ι1 ρ S1 σ H1 _ s1 (e.mono l.le) (h1.then (e.mono l.le) fun y ι2 S2 H2 l2 s2 h2 w vy => hk ι2 ρ S2 σ H2 _ s2 (e.mono (l.trans l2).le) (h2.then (e.mono (l.trans l2).le) fun z ι3 S3 H3 l3 s3 h3 q vz => by
    try dsimp only at h3
    split at h3
    · rename_i n k
      split at h3
      · rename_i es ee
        split at h3
        · rename_i hl
          obtain ⟨p, rfl, ep, kvs, hp, rp⟩ := s3.ref ee (vy.mono l3.le)
          cases vz
          refine ⟨p, _, rfl, .inl ⟨kvs, .inl k, hp, rfl, Evl.sz_lt (by rw [← Paired.len rp]; exact hl), rfl⟩, ?_⟩
          exact h3 _ _ _ (Ext.put ep (.of hp rfl)) (s3.put ep (.of hp rfl) ⟨_, upd_same, kr_put k rp (vx.mono (l2.trans l3).le)⟩) (e.mono (l.trans (l2.trans l3)).le)
        · exact h3.elim
      · exact h3.elim
    · exact h3.elim)))
theorem ss_aug {a : Nat} (he : SdE g W te ie) : SdS g W (tAug a te (ipI fun x y => x + y)) (sAug a ie) := fun ι ρ S σ H D s e h => by
  unfold sAug at h
  split at h
  · rename_i x ex
    obtain ⟨v, h1, h2⟩ := e.at_ a _ ex
    cases h2
    refine ⟨_, h1, he ι ρ S σ H _ s e (h.then e fun y ι1 S1 H1 l s1 h3 w vy => ?_)⟩
    try dsimp only at h3
    split at h3
    · rename_i j
      cases vy
      exact ⟨x, j, rfl, rfl, h3 _ _ _ (Ext.refl _ _) s1 ((e.mono l.le).set a (x := .int (x + j)) rfl)⟩
    · exact h3.elim
  · exact h.elim
def rGetL (K : PySem.W.Frag) : V → V → Hp → VK → Prop := fun o i H Q => ∃ p xs k v, o = .ref p ∧ i = .int k ∧ SqL K H p xs ∧ atI xs k = some v ∧ Q v H
theorem setL_okO {o i x : Va} {vo vi v : V} {Q : Hp → Prop} {k : Unit → Sto → O} (s : Sim g ι S H) (ho : VR g ι o vo) (hi : VR g ι i vi) (hv : VR g ι x v) (h : PO g ι H W D ((setL o i x S).toO ρ k))
    (f : ∀ S' H', Ext ι H ι H' → Sim g ι S' H' → PO g ι H' W D (k () S') → Q H') : rSetL vo vi v H Q := by
  unfold setL at h
  split at h
  · rename_i n z
    split at h
    · rename_i xs ex
      split at h
      · rename_i j ej
        obtain ⟨a, rfl, ea, vs, hp, rp⟩ := s.ref ex ho
        cases hi
        refine ⟨a, vs, z, j, rfl, rfl, hp, by rw [← Paired.len rp]; exact ej, ?_⟩
        exact f _ _ (Ext.put ea (notFrz_lst hp)) (s.putL ea hp (Paired.set hv j rp)) (PO.le (Ext.put ea (notFrz_lst hp)) h)
      · exact h.elim
    · exact h.elim
  · exact h.elim
end
end IL

end
section
set_option Elab.async false
set_option linter.all false
set_option maxRecDepth 100000
set_option maxHeartbeats 2000000
namespace IL
open PySem L2
section
variable {g : Gm} {W : WH} {ι : List Addr} {S : Sto} {H : Hp} {ta tb te : TE} {ia ib ie : IE} {t u : TS} {i j : IS} {D : Ends} {ρ : Env} {σ : St}
open PyProof.Rows in
theorem get_LIST {X : Cx} : PGet X (rGetL X.K) := by
  intro pins s σ H o i ov iv Q I ro ri h
  obtain ⟨p, xs, k, z, rfl, rfl, hq, he, q⟩ := h
  cases ro
  obtain ⟨t, rfl⟩ := ri
  obtain ⟨its, r, pl, hz⟩ := I.list hq
  obtain ⟨j, h1, h2, h3, h4, h5⟩ := atI_get he
  obtain ⟨w, ew, rw'⟩ := r.get h2
  have hl := r.length
  have hn := line63
  have fin : EP X pins σ Q w s := ⟨z, H, I, rw', q⟩
  by_cases h0 : 0 ≤ k
  · have hj : k.toNat = j := by
      rw [seqIndex_of h0 h5] at h1
      exact Option.some.inj h1
    exact wpAny_getItem_list pl.isList h0 (by omega) (by rw [hj]; simpa using ew) fin
  · have hj : (k + (its.toArray.size : Int)).toNat = j := by
      rw [seqIndex_neg (by omega) h4] at h1
      rw [List.size_toArray, ← hl]
      exact Option.some.inj h1
    exact wpAny_getItem_list_neg pl.isList (by omega) (by rw [List.size_toArray] <;> omega) (by omega) (by rw [hj]; simpa using ew) fin
theorem ss_augS {to ti : TE} {io ii : IE} (ho : SdE g W to io) (hi : SdE g W ti ii) (he : SdE g W te ie) : SdS g W (tAugS to ti te (rGetL g.K) (ipI fun x y => x + y) rSetL) (sAugS io ii ie) := fun ι ρ S σ H D s e h =>
  ho ι ρ S σ H _ s e (h.then e fun x ι1 S1 H1 l s1 h1 v vx => hi ι1 ρ S1 σ H1 _ s1 (e.mono l.le) (h1.then (e.mono l.le) fun y ι2 S2 H2 l2 s2 h2 w vy => by
    have h2' : PO g ι2 H2 W D ((fIxL x y S2).toO ρ fun z S3 => (ie ρ S3).toO ρ fun w S4 => match z, w with
      | .int a, .int b => (setL x y (.int (a + b)) S4).toO ρ fun _ S5 => .nx ρ S5
      | _, _ => .no) := h2
    unfold fIxL at h2'
    split at h2'
    · rename_i xs k ex
      split at h2'
      · rename_i z ez
        obtain ⟨a, vs, rfl, hq, r⟩ := getL_ok s2 (vx.mono l2.le) ex
        obtain ⟨z', e1, e2⟩ := Paired.atI r ez
        cases vy
        refine ⟨a, vs, k, z', rfl, rfl, hq, e1, ?_⟩
        refine he ι2 ρ S2 σ H2 _ s2 (e.mono (l.trans l2).le) (h2'.then (e.mono (l.trans l2).le) fun q ι3 S3 H3 l3 s3 h3 u vu => ?_)
        try dsimp only at h3
        split at h3
        · rename_i p q
          cases (e2.mono l3.le); cases vu
          refine ⟨p, q, rfl, rfl, setL_okO s3 ((vx.mono l2.le).mono l3.le) (i := .int k) (vi := .int k) rfl (x := .int (p + q)) (v := .int (p + q)) rfl h3 fun S4 H4 l4 s4 h4 => ?_⟩
          exact h4 _ _ _ (Ext.refl _ _) s4 (e.mono (l.trans (l2.trans l3)).le)
        · exact h3.elim
      · exact h2'.elim
    · exact h2'.elim))
/-! ### for -/
theorem ss_for {wi : TI} {ii : II} {gt : TG} {tg : IG} (hw : SdI g W wi ii) (hg : SdG g W gt tg) (hb : SdS g W t i) : SdS g W (tFor wi gt t) (sFor ii tg i) := fun ι ρ S σ H D s e h =>
  hw ι ρ S σ H _ s e (h.then e fun I ι1 S1 H1 l s1 h1 J wk => by
    obtain ⟨G, Y, w, hG, hY⟩ := wk
    have chk : ∀ (its : List It1) (ρ' : Env) (S' : Sto) {ι' H'}, PO g ι' H' W D (forL I.chk tg i its ρ' S') → I.chk S' = true := fun its ρ' S' ι' H' h => by
      cases hc : I.chk S' with
      | true => rfl
      | false => cases its <;> (unfold forL at h; rw [hc, if_neg (by simp)] at h; exact h.elim)
    refine for_it w (fun k σ' H' => ∃ ι' ρ' S', Ext ι1 H1 ι' H' ∧ Sim g ι' S' H' ∧ ER g ι' ρ' σ' ∧ PO g ι' H' W D (forL I.chk tg i (I.items.drop k) ρ' S')) ?_ ?_ ?_ ?_
    · exact ⟨ι1, ρ, S1, Ext.refl _ _, s1, e.mono l.le, h1⟩
    · rintro k σ' H' _ ⟨ι', ρ', S', l', s', e', h'⟩
      exact hG ι' S' H' l'.le l'.fz s' (chk _ _ _ h')
    · rintro k x σ' H' H'' hk ⟨ι', ρ', S', l', s', e', h'⟩ hy
      have hc := chk _ _ _ h'
      obtain ⟨it, hit⟩ : ∃ it, I.items[k]? = some it := ⟨I.items[k], by simp [hk]⟩
      obtain ⟨s2, l2, r2⟩ := hY k it ι' S' H' x H'' hit l'.le l'.fz s' hc hy
      have ed : I.items.drop k = it :: I.items.drop (k + 1) := by
        rw [List.drop_eq_getElem_cons hk]
        congr 1
        exact (List.getElem?_eq_some_iff.mp hit).2
      rw [ed] at h'
      unfold forL at h'
      rw [hc, if_pos rfl] at h'
      have h2 : PO g ι' H'' W D (((tg it ρ' S').toO ρ' fun ρ1 S1 => i ρ1 S1).seq (forL I.chk tg i (I.items.drop (k + 1)))) := PO.le l2 h'
      refine hg ι' S' ρ' σ' H'' it x _ s2 e' r2 ?_
      cases ht : tg it ρ' S' with
      | ok ρ1 S1' =>
        rw [ht] at h2
        intro ι3 H3 l3 s3 σ3 e3
        refine hb ι3 ρ1 S1' σ3 H3 _ s3 e3 ?_
        have h3 : PO g ι3 H3 W D ((i ρ1 S1').seq (forL I.chk tg i (I.items.drop (k + 1)))) := PO.le l3 h2
        cases hi : i ρ1 S1' with
        | nx ρ2 S2 =>
          rw [hi] at h3
          exact fun ι4 σ4 H4 l4 s4 e4 => ⟨ι4, ρ2, S2, l'.trans (l2.trans (l3.trans l4)), s4, e4, PO.le l4 h3⟩
        | rt v S2 => rw [hi] at h3; exact h3
        | ex c ρ2 S2 => rw [hi] at h3; exact h3
        | no => rw [hi] at h3; exact h3.elim
      | ex c S1' => rw [ht] at h2; exact fun ι3 H3 l3 s3 => h2 ι3 σ' H3 l3 s3 (e'.mono l3.le)
      | no => rw [ht] at h2; exact h2.elim
    · rintro σ' H' ⟨ι', ρ', S', l', s', e', h'⟩
      have hc := chk _ _ _ h'
      rw [List.drop_length] at h'
      unfold forL at h'
      rw [hc, if_pos rfl] at h'
      exact h' _ _ _ (Ext.refl _ _) s' e')
/-! ### while -/
theorem ss_whileF {tc : TT} {ic : IT} (hc : SdT g W tc ic) (hb : SdS g W t i) (n : Nat) : SdS g W (tWhile tc t) (whF ic i n) := fun ι ρ S σ H D s e h => by
  refine ⟨fun m σ' H' => ∃ ι' ρ' S', Sim g ι' S' H' ∧ ER g ι' ρ' σ' ∧ PO g ι' H' W D (whF ic i m ρ' S'), ⟨n, ι, ρ, S, s, e, h⟩, ?_⟩
  rintro m σ' H' ⟨ι', ρ', S', s', e', h'⟩
  cases m with
  | zero => exact h'.elim
  | succ m =>
    unfold whF at h'
    refine hc ι' ρ' S' σ' H' _ s' e' (h'.then e' fun c ι1 S1 H1 l s1 h1 => ?_)
    cases c with
    | false => rw [if_neg (by simp)] at h1 ⊢; exact h1 _ _ _ (Ext.refl _ _) s1 (e'.mono l.le)
    | true =>
      rw [if_pos rfl] at h1 ⊢
      refine ⟨fun σ2 H2 => ∃ ι2 ρ2 S2, Sim g ι2 S2 H2 ∧ ER g ι2 ρ2 σ2 ∧ PO g ι2 H2 W D (whF ic i m ρ2 S2), fun σ2 H2 q => ⟨m, Nat.lt_succ_self m, q⟩, ?_⟩
      refine hb ι1 ρ' S1 σ' H1 _ s1 (e'.mono l.le) ?_
      cases hi : i ρ' S1 with
      | nx ρ2 S2 =>
        rw [hi] at h1
        exact fun ι4 σ4 H4 l4 s4 e4 => ⟨ι4, ρ2, S2, s4, e4, PO.le l4 h1⟩
      | rt v S2 => rw [hi] at h1; exact h1
      | ex c ρ2 S2 => rw [hi] at h1; exact h1
      | no => rw [hi] at h1; exact h1.elim
theorem ss_while {tc : TT} {ic : IT} (hc : SdT g W tc ic) (hb : SdS g W t i) : SdS g W (tWhile tc t) (sWhile ic i) := fun ι ρ S σ H D s e h => by
  unfold sWhile at h
  split at h
  · exact ss_whileF hc hb _ ι ρ S σ H D s e h
  · exact h.elim
/-! ### comprehensions -/
theorem wipe_set {σ : St} {y : Option V} {j : Nat} : ∀ {vs : List Nat}, j ∈ vs → wipe (σ.set j y) vs = wipe σ vs
  | [], h => by simp at h
  | v :: vs, h => by
    unfold wipe
    by_cases hj : j ∈ vs
    · rw [wipe_set hj]
    · have e : v = j := by
        rcases List.mem_cons.mp h with e | e
        · exact e.symm
        · exact (hj e).elim
      subst e
      have c : wipe (σ.set v y) vs = (wipe σ vs).set v y := by
        clear h
        induction vs with
        | nil => rfl
        | cons w vs ih =>
          unfold wipe
          have hw : v ≠ w := fun z => hj (by rw [z]; exact List.mem_cons_self)
          rw [ih (fun z => hj (List.mem_cons_of_mem _ z)), List.set_comm _ _ hw]
      rw [c, List.set_set]
theorem wipe_wipe {σ : St} {vs : List Nat} : ∀ l : List Nat, (∀ j ∈ l, j ∈ vs) → wipe (wipe σ l) vs = wipe σ vs
  | [], _ => rfl
  | a :: l, h => by
    show wipe ((wipe σ l).set a none) vs = _
    rw [wipe_set (h a List.mem_cons_self)]
    exact wipe_wipe l fun j hj => h j (List.mem_cons_of_mem _ hj)
/-- a target that stores into vs alone -/
def Wp (gt : TG) (vs : List Nat) : Prop := ∀ x σ H (Q : St → Hp → Prop), gt x σ H Q → gt x σ H fun σ2 H2 => wipe σ2 vs = wipe σ vs ∧ Q σ2 H2
theorem wp_name {j : Nat} {vs : List Nat} (h : j ∈ vs) : Wp (gName j) vs := fun x σ H Q q => ⟨wipe_set h, q⟩
def Wps (gt : TGs) (vs : List Nat) : Prop := ∀ xs σ H (Q : St → Hp → Prop), gt xs σ H Q → gt xs σ H fun σ2 H2 => wipe σ2 vs = wipe σ vs ∧ Q σ2 H2
theorem wps_nil {vs : List Nat} : Wps gNil vs := fun xs σ H Q ⟨e, q⟩ => ⟨e, rfl, q⟩
theorem wps_cons {j : Nat} {gs : TGs} {vs : List Nat} (h : j ∈ vs) (r : Wps gs vs) : Wps (gCons (gName j) gs) vs := fun xs σ H Q ⟨v, rr, e, q⟩ => by
  refine ⟨v, rr, e, ?_⟩
  have q' : gs rr (σ.set j (some v)) H Q := q
  have := r rr (σ.set j (some v)) H Q q'
  rw [wipe_set h] at this
  exact this
theorem wp_tup {K : PySem.W.Frag} {n : Nat} {gs : TGs} {vs : List Nat} (r : Wps gs vs) : Wp (gTup K n gs) vs := fun x σ H Q ⟨a, xs, e, h1, h2, q⟩ => ⟨a, xs, e, h1, h2, r xs σ H Q q⟩
theorem ER.wipe (e : ER g ι ρ σ) : ∀ vs : List Nat, ER g ι (wipeE ρ vs) (wipe σ vs)
  | [] => e
  | v :: vs => (ER.wipe e vs).unset v
theorem P.thenN {α β : Type} {ι0 : List Addr} {H0 : Hp} {W' : Str → Hp → Prop} {r : R α} {k : α → Sto → R β} {T' : α → List Addr → Hp → Prop} {y : β} {S9 : Sto} (h : r.bindN k = .ok y S9) (f : ∀ x ι' S' H', Ext ι0 H0 ι' H' → Sim g ι' S' H' → k x S' = .ok y S9 → T' x ι' H') : P g ι0 H0 W' T' r := by
  cases r with
  | ok x S' => exact fun ι2 H2 l s => f x ι2 S' H2 l s h
  | ex c S' => cases h
  | no => cases h
theorem lc_gen {J : It} {I : Its} {gt : TG} {tg : IG} {tt : TT} {it' : IT} {vs : List Nat} {A : Addr} {Qd : Hp → Prop} {ys : List Va} {S9 : Sto} (hg : SdG g W0 gt tg) (wp : Wp gt vs) (ht : SdT g W0 tt it') (he : SdE g W0 te ie)
    (wk : Wk g ι H J I) (hz : I.items.length ≤ 100000) (s : Sim g ι S H) (e : ER g ι ρ σ) (hA : H A = none) (h : lcL I.chk tg it' ie (wipeE ρ vs) I.items S = .ok ys S9)
    (fin : ∀ ι2 H2 acc, Le ι ι2 → (∀ a, a ≠ A → a ∉ ι → H a ≠ none → (∀ ps, H a ≠ some (.tbl ps)) → a ∉ ι2 ∧ H2 a = H a) → Frz H H2 → A ∉ ι2 → H2 A = some (.lst acc) → Sim g ι2 S9 H2 → VRs g ι2 ys acc → Qd H2) :
    ∃ W : Nat → Nat → Hp → Prop, (∃ m, W 0 m (upd H A (.lst []))) ∧ ∀ i m H, W i m H →
      (J.stop i H ∧ Qd H) ∨ (J.go i H ∧ ∃ Nx : Hp → Prop, (∀ H', Nx H' → ∃ m', m' < m ∧ W (i + 1) m' H') ∧ ∀ x H', J.yld i H x H' → gt x (wipe σ vs) H' fun σ2 H2 => wipe σ2 vs = wipe σ vs ∧ tt σ2 H2 fun b H3 =>
        if b = true then te σ2 H3 fun y H4 => ∃ acc, H4 A = some (.lst acc) ∧ acc.length < sizeLine ∧ Nx (upd H4 A (.lst (acc ++ [y]))) else Nx H3) := by
  obtain ⟨G, Y, w, hG, hY⟩ := wk
  have chk : ∀ (its : List It1) (S' : Sto) (zs : List Va), lcL I.chk tg it' ie (wipeE ρ vs) its S' = .ok zs S9 → I.chk S' = true := fun its S' zs h => by
    cases hc : I.chk S' with
    | true => rfl
    | false => cases its <;> (unfold lcL at h; rw [hc, if_neg (by simp)] at h; cases h)
  refine lc_it w (fun k H' => ∃ ι' S' acc av rest, Le ι ι' ∧ (∀ a, a ≠ A → a ∉ ι → H a ≠ none → (∀ ps, H a ≠ some (.tbl ps)) → a ∉ ι' ∧ H' a = H a) ∧ Frz H H' ∧ A ∉ ι' ∧ H' A = some (.lst av) ∧ Sim g ι' S' H' ∧ VRs g ι' acc av ∧ acc.length ≤ k ∧ ys = acc ++ rest ∧ lcL I.chk tg it' ie (wipeE ρ vs) (I.items.drop k) S' = .ok rest S9) ?_ ?_ ?_ ?_
  · exact ⟨ι, S, [], [], ys, Le.refl _, fun a h1 h2 h3 _ => ⟨h2, upd_ne h1⟩, Frz.new hA, s.fresh hA, upd_same, s.more hA, .nil, Nat.le_refl _, rfl, h⟩
  · rintro k H' _ ⟨ι', S', acc, av, rest, l', fr', fz', na', ha', s', r', hl', e', h'⟩
    exact hG ι' S' H' l' fz' s' (chk _ _ _ h')
  · rintro k x H' H'' hk ⟨ι', S', acc, av, rest, l', fr', fz', na', ha', s', r', hl', e', h'⟩ hy
    have hc := chk _ _ _ h'
    obtain ⟨it, hit⟩ : ∃ it, I.items[k]? = some it := ⟨I.items[k], by simp [hk]⟩
    obtain ⟨s2, l2, r2⟩ := hY k it ι' S' H' x H'' hit l' fz' s' hc hy
    have ed : I.items.drop k = it :: I.items.drop (k + 1) := by
      rw [List.drop_eq_getElem_cons hk]
      congr 1
      exact (List.getElem?_eq_some_iff.mp hit).2
    rw [ed] at h'
    unfold lcL at h'
    rw [hc, if_pos rfl] at h'
    have ew : ER g ι' (wipeE ρ vs) (wipe σ vs) := (e.mono l').wipe vs
    have key := wp x (wipe σ vs) H'' _ (hg ι' S' (wipeE ρ vs) (wipe σ vs) H'' it x (fun σ2 H2 => tt σ2 H2 fun b H3 =>
        if b = true then te σ2 H3 fun y H4 => ∃ acc, H4 A = some (.lst acc) ∧ acc.length < sizeLine ∧ (∃ ι' S' acc' av rest, Le ι ι' ∧ (∀ a, a ≠ A → a ∉ ι → H a ≠ none → (∀ ps, H a ≠ some (.tbl ps)) → a ∉ ι' ∧ (upd H4 A (.lst (acc ++ [y]))) a = H a) ∧ Frz H (upd H4 A (.lst (acc ++ [y]))) ∧ A ∉ ι' ∧ (upd H4 A (.lst (acc ++ [y]))) A = some (.lst av) ∧ Sim g ι' S' (upd H4 A (.lst (acc ++ [y]))) ∧ VRs g ι' acc' av ∧ acc'.length ≤ k + 1 ∧ ys = acc' ++ rest ∧ lcL I.chk tg it' ie (wipeE ρ vs) (I.items.drop (k + 1)) S' = .ok rest S9)
        else (∃ ι' S' acc av rest, Le ι ι' ∧ (∀ a, a ≠ A → a ∉ ι → H a ≠ none → (∀ ps, H a ≠ some (.tbl ps)) → a ∉ ι' ∧ H3 a = H a) ∧ Frz H H3 ∧ A ∉ ι' ∧ H3 A = some (.lst av) ∧ Sim g ι' S' H3 ∧ VRs g ι' acc av ∧ acc.length ≤ k + 1 ∧ ys = acc ++ rest ∧ lcL I.chk tg it' ie (wipeE ρ vs) (I.items.drop (k + 1)) S' = .ok rest S9)) s2 ew r2 (P.thenN h' fun ρ1 ι3 S3 H3 l3 s3 h3 σ1 e1 => ?_))
    · rw [wipe_wipe vs fun _ h => h] at key
      exact key
    · refine ht ι3 ρ1 S3 σ1 H3 _ s3 e1 (P.thenN h3 fun b ι4 S4 H4 l4 s4 h4 => ?_)
      have l24 : Ext ι' H' ι4 H4 := l2.trans (l3.trans l4)
      obtain ⟨na4, ha4⟩ := l24.fr A na' (by rw [ha']; intro z; cases z) (by rw [ha']; intro ps z; cases z)
      rw [ha'] at ha4
      have fr4 : ∀ a, a ≠ A → a ∉ ι → H a ≠ none → (∀ ps, H a ≠ some (.tbl ps)) → a ∉ ι4 ∧ H4 a = H a := fun a h1 h2 h3 h4' => by
        obtain ⟨p, q⟩ := fr' a h1 h2 h3 h4'
        obtain ⟨p', q'⟩ := l24.fr a p (by rw [q]; exact h3) (by rw [q]; exact h4')
        exact ⟨p', q'.trans q⟩
      cases b with
      | false =>
        rw [if_neg (by simp)] at h4 ⊢
        exact ⟨ι4, S4, acc, av, rest, l'.trans l24.le, fr4, fz'.trans l24.fz, na4, ha4, s4, r'.mono l24.le, by omega, e', h4⟩
      | true =>
        rw [if_pos rfl] at h4 ⊢
        refine he ι4 ρ1 S4 σ1 H4 _ s4 (e1.mono l4.le) (P.thenN h4 fun y ι5 S5 H5 l5 s5 h5 v vy => ?_)
        have l25 : Ext ι' H' ι5 H5 := l24.trans l5
        obtain ⟨na5, ha5⟩ := l25.fr A na' (by rw [ha']; intro z; cases z) (by rw [ha']; intro ps z; cases z)
        rw [ha'] at ha5
        refine ⟨av, ha5, Evl.sz_lt (by rw [← Paired.len r']; omega), ?_⟩
        have hnf := notFrz_lst ha5
        cases hr : lcL I.chk tg it' ie (wipeE ρ vs) (I.items.drop (k + 1)) S5 with
        | ok zs S6 =>
          rw [hr] at h5
          cases h5
          refine ⟨ι5, S5, acc ++ [y], av ++ [v], zs, l'.trans l25.le, fun a h1 h2 h3 h3' => ?_, (fz'.trans l25.fz).trans (Frz.upd hnf), na5, upd_same, s5.other na5 hnf, Paired.append (r'.mono l25.le) (.cons vy .nil), by simp; omega, by rw [e']; simp, hr⟩
          obtain ⟨p, q⟩ := fr4 a h1 h2 h3 h3'
          obtain ⟨p', q'⟩ := l5.fr a p (by rw [q]; exact h3) (by rw [q]; exact h3')
          exact ⟨p', by rw [upd_ne h1]; exact q'.trans q⟩
        | ex c S6 => rw [hr] at h5; cases h5
        | no => rw [hr] at h5; cases h5
  · rintro H' ⟨ι', S', acc, av, rest, l', fr', fz', na', ha', s', r', hl', e', h'⟩
    have hc := chk _ _ _ h'
    rw [List.drop_length] at h'
    unfold lcL at h'
    rw [hc, if_pos rfl] at h'
    cases h'
    rw [List.append_nil] at e'
    subst e'
    exact fin ι' H' av l' fr' fz' na' ha' s' r'
theorem upd_self {A : Addr} {o : HO} (h : H A = some o) : upd H A o = H := by
  funext b
  by_cases e : b = A
  · subst e; rw [upd_same, h]
  · rw [upd_ne e]
theorem sd_lc {wi : TI} {ii : II} {gt : TG} {tg : IG} {tt : TT} {it : IT} {vs : List Nat} (hw : SdI g W wi ii) (hg : SdG g W0 gt tg) (wp : Wp gt vs) (ht : SdT g W0 tt it) (he : SdE g W0 te ie) : SdE g W (tLc wi gt tt te vs) (iLc ii tg it ie vs) := fun ι ρ S σ H Q s e h =>
  hw ι ρ S σ H _ s e (h.then fun I ι1 S1 H1 l s1 h1 J wk A hA => by
    try dsimp only at h1
    split at h1
    · rename_i hz
      cases hl : lcL I.chk tg it ie (wipeE ρ vs) I.items S1 with
      | ok ys S9 =>
        rw [hl] at h1
        refine lc_gen hg wp ht he wk hz s1 (e.mono l.le) hA hl fun ι2 H2 acc l2 fr fz na ha s2 r => ?_
        refine h1 (ι2 ++ [A]) H2 ⟨l2.trans (Le.snoc _ _), fun a h2 h3 h3' => ?_, fz⟩ ?_ _ s2.newRef
        · have hap : a ≠ A := fun z => h3 (z ▸ hA)
          obtain ⟨x, y⟩ := fr a hap h2 h3 h3'
          exact ⟨fun z => (List.mem_append.mp z).elim x fun z => hap (List.mem_singleton.mp z), y⟩
        · have := s2.join (o := .lst ys) (u := .lst acc) na (notFrz_lst ha) ⟨acc, upd_same, r.mono (Le.snoc _ _)⟩
          rwa [upd_self ha] at this
      | ex c S9 => rw [hl] at h1; exact h1.elim
      | no => rw [hl] at h1; exact h1.elim
    · exact h1.elim)
end
end IL

end
section
set_option Elab.async false
set_option linter.all false
set_option maxRecDepth 100000
set_option maxHeartbeats 2000000
namespace IL
open PySem L2
section
variable {g : Gm} {W : WH} {ι : List Addr} {S : Sto} {H : Hp} {ta tb te : TE} {ia ib ie : IE} {t u : TS} {i j : IS} {D : Ends} {ρ : Env} {σ : St}
/-! ### a comprehension over a dict's keys -/
theorem Sim.putS (s : Sim g ι S H) {n : Nat} {a : Addr} {o : Ob} {u : HO} (e : ι[n]? = some a) (hx : ∀ φ, H a ≠ some (.ext φ)) (ht : ∀ ps, H a ≠ some (.tbl ps)) (h : ObR g ι (upd H a u) a o) (sc : ∀ H', Frz (upd H a u) H' → g.hs → SqL g.K H' g.a0 (g.ns.map V.int)) : Sim g ι (S.set n o) (upd H a u) := by
  refine ⟨s.nd, by simp [s.len], fun m o' b e1 e2 => ?_, sc, tabs_upd hx ht s.tb⟩
  by_cases hm : n = m
  · subst hm
    rw [e] at e2; cases e2
    have hn : n < S.length := by rw [← s.len]; exact (List.getElem?_eq_some_iff.mp e).1
    rw [List.getElem?_set_self hn] at e1
    cases e1
    exact h
  · rw [List.getElem?_set_ne hm] at e1
    refine (s.ob m o' b e1 e2).heap (upd_ne fun z => hm ?_) (fun b φ eb => by rw [upd_ne (fun z => hx φ (by rw [← z]; exact eb))]; exact eb)
    subst z
    obtain ⟨h1, e1'⟩ := List.getElem?_eq_some_iff.mp e
    obtain ⟨h2, e2'⟩ := List.getElem?_eq_some_iff.mp e2
    exact (List.getElem_inj s.nd).mp (e1'.trans e2'.symm)
theorem sd_lcK {d : Nat} {gt : TG} {tg : IG} {tt : TT} {it : IT} {vs : List Nat} (hg : SdG g W0 gt tg) (wp : Wp gt vs) (ht : SdT g W0 tt it) (he : SdE g W0 te ie) : SdE g W (tLockE (tLc (iKeys (tVar d)) gt tt te vs)) (iLcK d tg it ie vs) := fun ι ρ S σ H Q s e h => by
  unfold iLcK at h
  split at h
  · rename_i n en
    split at h
    · rename_i es ee
      split at h
      · rename_i hz
        obtain ⟨v, ev, vv⟩ := e.at_ d _ en
        obtain ⟨a, rfl, ea, kvs, ha, rk⟩ := s.ref ee vv
        have hnf : Soft H a := .of ha rfl
        refine ⟨a, .dK kvs, ha, trivial, fun od => ⟨.ref a, ev, a, od, rfl, .inl ⟨kvs, upd_same, fun A hA => ?_⟩⟩⟩
        have s1 : Sim g ι (S.set n .hid) (upd H a (.frz od (.dK kvs))) := s.put ea hnf (by show upd H a _ a ≠ none; rw [upd_same]; intro z; cases z)
        cases hl : lcL (fun _ => true) tg it ie (wipeE ρ vs) (es.map fun e => It1.one (.int e.1)) (S.set n .hid) with
        | ok ys S9 =>
          rw [hl] at h
          have wk : Wk g ι (upd H a (.frz od (.dK kvs))) (Itk a od kvs) ⟨es.map fun e => It1.one (.int e.1), fun _ => true⟩ := by
            have w : Walk (Itk a od kvs) (es.map fun e => It1.one (.int e.1)).length (fun H => H a = some (.frz od (.dK kvs))) (fun i H x H' => H' = H ∧ ∃ k v, kvs[i]? = some (k, v) ∧ x = kV k) := by
              rw [List.length_map, Paired.len rk]; exact walk_keys
            refine ⟨_, _, w, fun ι' S' H' l' f' s' hc => f'.fz a _ _ upd_same, fun k q ι' S' H2 y H3 e1 l' f' s' hc hy => ?_⟩
            obtain ⟨z1, k', v', z2, z3⟩ := hy
            subst z1
            have e1' : (es.map fun e => It1.one (.int e.1))[k]? = some q := e1
            rw [List.getElem?_map] at e1'
            cases e2 : es[k]? with
            | none => rw [e2] at e1'; cases e1'
            | some kv =>
              rw [e2] at e1'
              have e3 := (Option.some.inj e1').symm
              subst e3
              obtain ⟨u, e4, e5⟩ := Paired.get rk e2
              rw [z2] at e4; cases e4
              refine ⟨s', Ext.refl _ _, ?_⟩
              show y = V.int kv.1
              rw [z3, show k' = Sum.inl kv.1 from e5.1]; rfl
          have hz' : (⟨es.map fun e => It1.one (.int e.1), fun _ => true⟩ : Its).items.length ≤ 100000 := by
            show (es.map fun e => It1.one (.int e.1)).length ≤ 100000
            rw [List.length_map]; exact hz
          refine lc_gen hg wp ht he wk hz' s1 e hA hl fun ι2 H2 acc l2 fr fz na hA2 s2 r => ?_
          have ha2 : H2 a = some (.frz od (.dK kvs)) := fz.fz a _ _ upd_same
          have ea2 := l2 n a ea
          have hAa : A ≠ a := fun z => by rw [z, upd_same] at hA; cases hA
          have fzH : Frz H (upd H2 a (.dK kvs)) := ⟨fun b ob u hb => by
            have hba : b ≠ a := fun z => by rw [z, ha] at hb; cases hb
            rw [upd_ne hba]
            exact fz.fz b ob u (by rw [upd_ne hba]; exact hb), fun b φ hb => by
            have hba : b ≠ a := fun z => by rw [z, ha] at hb; cases hb
            rw [upd_ne hba]
            exact fz.ex b φ (by rw [upd_ne hba]; exact hb)⟩
          refine ⟨ha2, h (ι2 ++ [A]) (upd H2 a (.dK kvs)) ⟨l2.trans (Le.snoc _ _), fun b h2 h3 h3' => ?_, fzH⟩ ?_ _ s2.newRef⟩
          · have hba : b ≠ a := fun z => h2 (z ▸ List.mem_of_getElem? ea)
            have hbA : b ≠ A := fun z => by
              subst z
              rw [upd_ne hba] at hA
              exact h3 hA
            obtain ⟨x, y⟩ := fr b hbA h2 (by rw [upd_ne hba]; exact h3) (by rw [upd_ne hba]; exact h3')
            refine ⟨fun z => (List.mem_append.mp z).elim x fun z => hbA (List.mem_singleton.mp z), ?_⟩
            rw [upd_ne hba, y, upd_ne hba]
          · have rk2 : Paired (KR g ι2) es kvs := Paired.imp (fun _ _ q => ⟨q.1, q.2.mono l2⟩) rk
            have s3 : Sim g ι2 (S9.set n (.dic es)) (upd H2 a (.dK kvs)) := s2.putS ea2 (fun φ z => by rw [ha2] at z; cases z) (fun ps z => by rw [ha2] at z; cases z) ⟨kvs, upd_same, rk2⟩ fun H' f => s.sc H' (fzH.trans f)
            have hA3 : upd H2 a (.dK kvs) A = some (.lst acc) := by rw [upd_ne hAa]; exact hA2
            have := s3.join (o := .lst ys) (u := .lst acc) na (notFrz_lst hA3) ⟨acc, upd_same, r.mono (Le.snoc _ _)⟩
            rwa [upd_self hA3] at this
        | ex c S9 => rw [hl] at h; exact h.elim
        | no => rw [hl] at h; exact h.elim
      · exact h.elim
    · exact h.elim
  · exact h.elim
theorem ss_lockLc {tl : TE} {il : IE} {q : Nat} (h : SdE g W (tLockE tl) il) : SdS g W (tLock (tAsg tl (gName q))) (sAsg il (tgName q)) := fun ι ρ S σ H D s e hp => ss_asg h sg_name ι ρ S σ H D s e hp
/-! ### defs: the promise by the plain function; no exception leaves -/
def iSp (g : Gm) (f : Fn) : Sp := fun vs H Q _ => ∃ ι S xs, Sim g ι S H ∧ VRs g ι xs vs ∧ P g ι H (fun _ _ => False) (fun x ι' H' => ∀ v, VR g ι' x v → Q v H') (f xs S)
theorem sd_call {f : Fn} {E : XK} {tA : TA} {iA : IA} (ha : SdA g W0 tA iA) : SdE g W0 (tCall (iSp g f) [] E tA) (iCall f iA) := fun ι ρ S σ H Q s e h =>
  ha ι ρ S σ H _ s e (h.then fun xs ι1 S1 H1 l s1 h1 vs r => ⟨ι1, S1, xs, s1, by rw [List.append_nil]; exact r, h1⟩)
theorem sd_make {c : Str} {C : Addr} {f : Fn} {E : XK} {tA : TA} {iA : IA} (hC : g.γ c = C) (ha : SdA g W0 tA iA) : SdE g W0 (tMake C (iSp g f) [] E tA) (iMake c f iA) := fun ι ρ S σ H Q s e h =>
  ha ι ρ S σ H _ s e (h.then fun xs ι1 S1 H1 l s1 h1 vs r x dx hx hdx hne => by
    subst hC
    have hx' : upd H1 dx (.own x) x = none := by rw [upd_ne (Ne.symm hne)]; exact hx
    have s2 : Sim g ι1 S1 (upd H1 dx (.own x)) := s1.more hdx
    have s3 : Sim g (ι1 ++ [x]) (S1 ++ [.obj c []]) (upd (upd H1 dx (.own x)) x (.ins (g.γ c) dx [])) := s2.alloc hx' ⟨dx, [], upd_same, .nil⟩
    have e0 : Ext ι1 H1 (ι1 ++ [x]) (upd (upd H1 dx (.own x)) x (.ins (g.γ c) dx [])) := (Ext.new hdx).trans (Ext.snoc hx')
    have nr : VR g (ι1 ++ [x]) (.ref S1.length) (.ref x) := s1.newRef
    refine ⟨ι1 ++ [x], _, .ref S1.length :: xs, s3, .cons nr (by rw [List.append_nil]; exact r.mono e0.le), ?_⟩
    refine (h1.thenB e0 fun v ι' S' H' l' s' h' u vu => ?_)
    cases v with
    | non => exact ⟨vu, h' ι' H' (e0.trans l') s' _ (nr.mono l'.le)⟩
    | _ => exact h'.elim)
theorem sd_meth {c : Str} {C : Addr} {m : Str} {f : Fn} {E : XK} {tA : TA} {iA : IA} (hC : g.γ c = C) (ho : SdE g W0 ta ia) (ha : SdA g W0 tA iA) : SdE g W0 (tMeth C m (iSp g f) [] E ta tA) (iMeth c m f ia iA) := fun ι ρ S σ H Q s e h =>
  ho ι ρ S σ H _ s e (h.then fun x ι1 S1 H1 l s1 h1 v vx => by
    subst hC
    try dsimp only at h1
    split at h1
    · rename_i c' fs eo
      split at h1
      · rename_i hc
        obtain ⟨a, dx, vs, rfl, hp, r⟩ := getO_ok s1 vx eo
        obtain ⟨hc1, hc2⟩ := hc
        subst hc1
        exact ⟨a, dx, vs, rfl, hp, fr_lookupN r hc2, ha ι1 ρ S1 σ H1 _ s1 (e.mono l.le) (h1.then fun xs ι2 S2 H2 l2 s2 h2 ws r2 => ⟨ι2, S2, x :: xs, s2, .cons (vx.mono l2.le) (by rw [List.append_nil]; exact r2), h2⟩)⟩
      · exact h1.elim
    · exact h1.elim)
theorem PE.or2 {X : Cx} {e : Expr} {t u : TE} (h : PE X e t) (h' : PE X e u) : PE X e (fun σ H Q => t σ H Q ∨ u σ H Q) := ⟨fun pins s σ H Q I q => q.elim (h.run pins s σ H Q I) (h'.run pins s σ H Q I)⟩
theorem sd_is {c : Str} {io : IE} {t u : TE} {i j : IE} (h1 : SdE g W t i) (h2 : SdE g W u j) : SdE g W (fun σ H Q => t σ H Q ∨ u σ H Q) (iIs c io i j) := fun ι ρ S σ H Q s e h => by
  unfold iIs at h
  split at h
  · split at h
    · split at h
      · exact .inl (h1 ι ρ S σ H Q s e h)
      · exact .inr (h2 ι ρ S σ H Q s e h)
    · exact h.elim
  · exact h.elim
theorem er_start {N : List Str} {xs : List Va} {vs : List V} (r : VRs g ι xs vs) : ER g ι (xs.map some ++ List.replicate (N.length - xs.length) none) (L2.start N vs) := by
  refine ⟨?_, fun k x e => ?_⟩
  · unfold L2.start
    simp only [List.length_append, List.length_map, List.length_replicate, Paired.len r]
  · unfold L2.start
    by_cases hk : k < xs.length
    · rw [List.getElem?_append_left (by rw [List.length_map]; exact hk), List.getElem?_map] at e
      cases ex : xs[k]? with
      | none => rw [ex] at e; cases e
      | some y =>
        rw [ex] at e
        have e' : y = x := by simpa using e
        subst e'
        obtain ⟨v, h1, h2⟩ := Paired.get r ex
        refine ⟨v, ?_, h2⟩
        rw [List.getElem?_append_left (by rw [List.length_map, ← Paired.len r]; exact hk), List.getElem?_map, h1]
        rfl
    · rw [List.getElem?_append_right (by rw [List.length_map]; omega)] at e
      rw [List.getElem?_replicate] at e
      split at e <;> cases e
theorem P_len {p n : Nat} {body : IS} {T : Va → List Addr → Hp → Prop} {W' : Str → Hp → Prop} {xs : List Va} (h : P g ι H W' T (mkFn p n body xs S)) : xs.length = p := by
  unfold mkFn at h
  split at h
  · assumption
  · exact h.elim
theorem iSp_len {p n : Nat} {body : IS} {ps : List Str} (hp : ps.length = p) : ∀ vs H Q E, iSp g (mkFn p n body) vs H Q E → vs.length = ps.length := by
  rintro vs H Q E ⟨ι, S, xs, s, r, h⟩
  rw [hp, ← Paired.len r]
  exact P_len h
/-- a def's body keeps the promise -/
theorem body {N : List Str} {p n : Nat} {b : IS} {t : TS} {vs : List V} {Q : VK} {E : XK} (h : iSp g (mkFn p n b) vs H Q E) (hn : N.length = n) (hb : SdS g W0 t b) : t { nx := fun _ H' => Q .non H', rt := Q } (L2.start N vs) H := by
  obtain ⟨ι, S, xs, s, r, h⟩ := h
  subst hn
  refine hb ι _ S _ H _ s (er_start r) ?_
  unfold mkFn at h
  rw [if_pos (P_len h)] at h
  cases hr : b (xs.map some ++ List.replicate (N.length - xs.length) none) S with
  | nx ρ' S' => rw [hr] at h; exact fun ι' σ' H' l s' e' => h ι' H' l s' _ rfl
  | rt v S' => rw [hr] at h; exact fun ι' v H' l s' r' => h ι' H' l s' _ r'
  | ex c ρ' S' => rw [hr] at h; exact fun ι' σ' H' l s' e' => h ι' H' l s'
  | no => rw [hr] at h; exact h.elim
end
/-- a def that may be called by its name -/
structure Cal (P : Program) (w : World) (K : PySem.W.Frag) (mg : Str → Option Value) (base : Heap) (CX : CXT) (k : Nat) (x : Str) (ps : List Str) (sp : Sp) : Prop where
  ex : ∃ f fd, FnOk P w K mg base CX k f fd ps sp ∧ mg x = some (.ref f) ∧ PySem.W.keepIn K (.ref f) = true ∧ Binds K fd ps []
theorem pe_cal {X : Cx} {k : Nat} {x : Str} {ps : List Str} {sp : Sp} {p pos : Pos} {e : Expr} {es : List Expr} {t : TA} (c : Cal X.prog X.w X.K X.mg X.base CX0 k x ps sp) (hr : Room k X.A) (hg : Gl X x) (ha : PA X (e :: es) t)
    (hdb : (x == ("__debug__" : Str)) = false := by decide) (he : starEach (e :: es) X.env = (false, eval e X.env) :: starEach es X.env := by rfl) (hpl : (backTo pos (starEach es X.env)).any (·.1) = false := by rfl) :
    PE X (.Call (.Name x p) (e :: es) [] pos) (tCall sp [] E0 t) := by
  obtain ⟨f, fd, F, hm, hk, hb⟩ := c.ex
  exact pe_call F hr hg hm hk hb .nil pass0 ha hdb he hpl
theorem pe_cal0 {X : Cx} {k : Nat} {x : Str} {ps : List Str} {sp : Sp} {p pos : Pos} (c : Cal X.prog X.w X.K X.mg X.base CX0 k x ps sp) (hr : Room k X.A) (hg : Gl X x)
    (hdb : (x == ("__debug__" : Str)) = false := by decide) : PE X (.Call (.Name x p) [] [] pos) (tCall sp [] E0 tNil) := by
  obtain ⟨f, fd, F, hm, hk, hb⟩ := c.ex
  exact pe_call0 F hr hg hm hk hb .nil pass0 hdb
/-- a class that may be made -/
structure Mkc (P : Program) (w : World) (K : PySem.W.Frag) (mg : Str → Option Value) (base : Heap) (k : Nat) (x : Str) (C : Addr) (ps : List Str) (sp : Sp) : Prop where
  ex : ∃ f fd, FnOk P w K mg base CX0 k f fd ps sp ∧ Mk K C f ∧ mg x = some (.ref C) ∧ Binds K fd ps []
theorem pe_mkc {X : Cx} {k : Nat} {x : Str} {C : Addr} {ps : List Str} {sp : Sp} {p pos : Pos} {e : Expr} {es : List Expr} {t : TA} (c : Mkc X.prog X.w X.K X.mg X.base k x C ps sp) (hr : Room (k + 1) X.A) (hg : Gl X x) (ha : PA X (e :: es) t)
    (hdb : (x == ("__debug__" : Str)) = false := by decide) (he : starEach (e :: es) X.env = (false, eval e X.env) :: starEach es X.env := by rfl) (hpl : (backTo pos (starEach es X.env)).any (·.1) = false := by rfl) :
    PE X (.Call (.Name x p) (e :: es) [] pos) (tMake C sp [] E0 t) := by
  obtain ⟨f, fd, F, M, hm, hb⟩ := c.ex
  exact pe_make M F hr hg hm hb .nil pass0 ha hdb he hpl
/-- a method of a class -/
structure Mcal (P : Program) (w : World) (K : PySem.W.Frag) (mg : Str → Option Value) (base : Heap) (k : Nat) (C : Addr) (m : Str) (ps : List Str) (sp : Sp) : Prop where
  ex : ∃ f fd, FnOk P w K mg base CX0 k f fd ps sp ∧ Cls K C ∧ Meth K C m f ∧ Binds K fd ps []
theorem pe_mcal {X : Cx} {k : Nat} {C : Addr} {m : Str} {ps : List Str} {sp : Sp} {o : Expr} {ta : TE} {apos pos : Pos} {e : Expr} {es : List Expr} {t : TA} {pl : Sem Bool} (c : Mcal X.prog X.w X.K X.mg X.base k C m ps sp) (hr : Room k X.A) (he : PE X o ta) (ha : PA X (e :: es) t)
    (hst : starEach (e :: es) X.env = (false, eval e X.env) :: starEach es X.env := by rfl) (hpl : (backTo pos (starEach es X.env)).any (·.1) = false := by rfl)
    (ht : eval (.Call (.Attribute o m apos) (e :: es) [] pos) X.env = (do
      let ov ← eval o X.env
      standAt apos.atName
      let (f, first) ← holding [ov] (getMethod ov m pl)
      callWith pos f first (backTo pos (starEach (e :: es) X.env)) (backToKw pos (keywordEach [] X.env))) := by rfl) :
    PE X (.Call (.Attribute o m apos) (e :: es) [] pos) (tMeth C m sp [] E0 ta t) := by
  obtain ⟨f, fd, F, cl, M, hb⟩ := c.ex
  exact pe_meth he cl M F hr hb .nil pass0 ha hst hpl ht
/-- the built-ins' names are nobody else's -/
structure Bt (mg : Str → Option Value) : Prop where
  len : mg "len" = none
  isinstance : mg "isinstance" = none
  int : mg "int" = none
  bool : mg "bool" = none
  list : mg "list" = none
  tuple : mg "tuple" = none
  all : mg "all" = none
  any : mg "any" = none
  sum : mg "sum" = none
  max : mg "max" = none
  min : mg "min" = none
  sorted : mg "sorted" = none
  set : mg "set" = none
  range : mg "range" = none
  enumerate : mg "enumerate" = none
  zip : mg "zip" = none
  abs : mg "abs" = none
  str : mg "str" = none
end IL

end
section
set_option linter.all false
set_option maxRecDepth 100000
namespace IL
open PySem L2
/-! ### the end of every law -/
def gam (K : PySem.W.Frag) (x : Str) : Addr := match PySem.W.nsIn K mainGlobals x with
  | some (some (.ref a)) => a
  | _ => 0
theorem gam_of {K : PySem.W.Frag} {x : Str} {a : Addr} (h : PySem.W.nsIn K mainGlobals x = some (some (.ref a))) : gam K x = a := by unfold gam; rw [h]
/-- the letter of a law: its tables, its lambdas -/
def gmOf (K : PySem.W.Frag) (a0 : Addr) (ns : List Int) (hs : Prop) (T : List (Addr × Str)) (lam : Nat → LI) (cb : List (Str × Addr) → List Str → List (Option V) → Prop) : Gm := ⟨gam K, K, a0, ns, hs, none, T, lam, none, cb⟩
end IL

end
section
set_option linter.all false
namespace IL
open PySem L2
/-- xs.count(y), plain values -/
def mCnt : Va → List Va → Sto → R Va
  | x, [y], S => match getL S x with
    | some xs => if flatA y = true ∧ xs.all flatA = true then .ok (.int (xs.countP fun z => eqA z y : Nat)) S else .no
    | none => .no
  | _, _, _ => .no
/-- x is not None, x is None -/
def fNotN : Va → Va → Sto → R Va
  | .non, .non, S => .ok (.bl false) S
  | .int _, .non, S => .ok (.bl true) S
  | .bl _, .non, S => .ok (.bl true) S
  | .str _, .non, S => .ok (.bl true) S
  | .ref _, .non, S => .ok (.bl true) S
  | _, _, _ => .no
end IL

end
section
set_option Elab.async false
set_option linter.all false
set_option maxRecDepth 100000
namespace L2
open PySem PySem.Spec PyProof.Rows
section
variable {X : Cx}
def rCntF (K : PySem.W.Frag) : V → List V → Hp → VK → Prop := fun x xs H Q => ∃ (a : Addr) (ys : List V) (y : V), x = V.ref a ∧ xs = [y] ∧ SqL K H a ys ∧ flatV y = true ∧ ys.all flatV = true ∧ Q (.int (ys.countP fun z => eqV z y : Nat)) H
theorem eqU_cnt {y : V} : ∀ {ys : List V} {us : List Value}, Vals ys us → ys.all flatV = true → us.countP (eqU y) = ys.countP fun z => eqV z y
  | _, _, .nil, _ => rfl
  | z :: zs, u :: us, .cons r t, h => by
    rw [List.all_cons, Bool.and_eq_true] at h
    rw [List.countP_cons, List.countP_cons, eqU_cnt t h.2, eqU_of r h.1]
theorem mt_COUNT : MtR X "list.count" (rCntF X.K) := by
  intro pins s σ H x xs v us Q I rx rxs h
  obtain ⟨a, ys, y, rfl, rfl, hs, fy, fys, q⟩ := h
  cases rx
  cases rxs with
  | cons ry rt =>
    rename_i uy ut
    cases rt
    obtain ⟨its, rv, ⟨⟨cls, dd, data, sl⟩, n, ho, hc, hdn, hd⟩, hlen⟩ := I.list hs
    simp only at hc hd
    subst hc hd
    refine call_meets PySem.F.slot_list_count ⟨_, ho, rfl⟩ PySem.F.entry_list_count (PySem.F.args_list_count_2 _ _)
      (SeqAt.list_countAt a its.toArray n dd sl uy (eqU y)) ⟨ho, fun u' hu' => mem_eqAt ry fy rv fys u' (by simpa using hu'), ?_⟩
    have ec : its.toArray.toList.countP (eqU y) = ys.countP fun z => eqV z y := eqU_cnt rv fys
    refine ⟨.int (ys.countP fun z => eqV z y : Nat), H, I.tok _, ⟨s.toks, ?_⟩, q⟩
    show Value.int ((its.toArray.toList.countP (eqU y) : Nat) : Int) s.toks = _
    rw [ec]
end
end L2
namespace IL
open PySem L2
section
variable {g : Gm} {W : WH}
theorem cnt_vr {ι : List Addr} {y : Va} {u : V} (vy : VR g ι y u) (fy : flatA y = true) : ∀ {xs : List Va} {vs : List V}, VRs g ι xs vs → xs.all flatA = true → vs.countP (fun z => eqV z u) = xs.countP fun z => eqA z y
  | _, _, .nil, _ => rfl
  | x :: xs, v :: vs, .cons r t, h => by
    rw [List.all_cons, Bool.and_eq_true] at h
    rw [List.countP_cons, List.countP_cons, cnt_vr vy fy t h.2, eq_vr r vy h.1 fy]
theorem sm_count : SdM g W (rCntF g.K) mCnt := fun ι S H x v xs vs σ Q s vx r h1 => by
  unfold mCnt at h1
  split at h1
  · rename_i y
    split at h1
    · rename_i zs ez
      split at h1
      · rename_i hf
        obtain ⟨u, rfl, vy⟩ := vrs1 r
        obtain ⟨a, ws, rfl, hq, rp⟩ := getL_ok s vx ez
        refine ⟨a, ws, u, rfl, rfl, hq, flat_vr vy hf.1, flats_vr rp hf.2, h1 _ _ (Ext.refl _ _) s _ ?_⟩
        rw [cnt_vr vy hf.1 rp hf.2]
        rfl
      · exact h1.elim
    · exact h1.elim
  · exact h1.elim
end
end IL
namespace IL
open PySem L2
theorem cls_all {p : Str → Prop} (h1 : p "Answer") (h2 : p "Shared") (h3 : p "Crowd") (h4 : p "Even") (h5 : p "Chain") (h6 : p "Side") : ∀ c ∈ clsL, p c := by
  intro c hc
  unfold clsL at hc
  rcases List.mem_cons.mp hc with rfl | hc
  · exact h1
  rcases List.mem_cons.mp hc with rfl | hc
  · exact h2
  rcases List.mem_cons.mp hc with rfl | hc
  · exact h3
  rcases List.mem_cons.mp hc with rfl | hc
  · exact h4
  rcases List.mem_cons.mp hc with rfl | hc
  · exact h5
  rcases List.mem_cons.mp hc with rfl | hc
  · exact h6
  · cases hc
theorem sub_of {K : PySem.W.Frag} {x y : Value} {b b' : Bool} (h : PySem.W.kitOne K x y = some b) (e : b' = b) : PySem.W.kitOne K x y = some b' := e ▸ h
theorem kit_sub {K : PySem.W.Frag} {C D : Addr} {b : Bool} {q : _} (hq : PySem.W.clsIn K D = some q) (ht : PySem.W.typeIn K (.ref D) = some (.type "type")) (hr : PySem.W.subIn K (.ref D) (.ref D) = some true) (hs : PySem.W.subIn K (.ref C) (.ref D) = some b) : PySem.W.kitOne K (.ref C) (.ref D) = some b := by
  unfold PySem.W.kitOne
  split
  · rename_i h
    have e := beq_iff_eq.mp h
    cases e
    rw [← hs, hr]
  · unfold PySem.W.kitCls
    simp only [hq, ht, Option.isSome_some, beq_self_eq_true, Bool.and_self, if_true]
    exact hs
theorem u65_of {k : Nat} {A : Around} (r : Room k A) : A.units + 65 < cLine := by have := r.un; omega
theorem sr_notN {g : Gm} {W} : SdR g W rNotN fNotN := fun ι S H x y v u σ Q s vx vy h1 => by
  cases x <;> cases y <;> first | exact h1.elim | skip
  · cases vx; cases vy; exact And.intro rfl (h1 ι H (Ext.refl _ _) s _ rfl)
  · cases vx; cases vy; exact And.intro rfl (h1 ι H (Ext.refl _ _) s _ rfl)
  · cases vx; cases vy; exact And.intro rfl (h1 ι H (Ext.refl _ _) s _ rfl)
  · cases vx; cases vy; exact And.intro rfl (h1 ι H (Ext.refl _ _) s _ rfl)
  · obtain ⟨a, _, rfl⟩ := vx; cases vy; exact And.intro rfl (h1 ι H (Ext.refl _ _) s _ rfl)
end IL

end
section
set_option Elab.async false
set_option linter.all false
namespace IL
open PySem L2
/-! ### exceptions: the plain machine -/
/-- the own exceptions that are raised -/
def excL : List Str := ["BadPeople", "BadTasks", "BadLimits", "BadSharing", "BadPerson", "Unlike"]
/-- whether an error of the class c is one of x -/
def eIs (x c : Str) : Bool := decide (c = x) || decide (x = ("EitherError" : Str)) || decide (x = ("ValueError" : Str))
def iIsE (i : Nat) (x : Str) : IE := fun ρ S => match ρ[i]? with
  | some (some (.exc c)) => .ok (.bl (eIs x c)) S
  | _ => .no
def noV : Va → Bool
  | .exc _ => false
  | _ => true
def noR : Option Va → Bool
  | some v => noV v
  | none => true
def noO : Ob → Bool
  | .lst xs => xs.all noV
  | .tup xs => xs.all noV
  | .dic es => es.all fun e => noV e.2
  | .obj _ fs => fs.all fun e => noV e.2
  | .hid => true
  | .clo _ none => true
  | .clo _ (some vs) => vs.all noR
/-- the old objects stand as they did, no new one holds the error -/
def okE (S S' : Sto) : Bool := decide (S'.take S.length = S) && (S'.drop S.length).all noO
def sTry (i : Nat) (ib is : IS) : IS := fun ρ S => match ib ρ S with
  | .ex c ρ1 S1 => if c ∈ excL then (match is (ρ1.set i (some (.exc c))) S1 with
    | .rt v S2 => if okE S1 S2 = true ∧ noV v = true then .rt v S2 else .no
    | .nx ρ2 S2 => if okE S1 S2 = true ∧ (ρ2.set i none).all noR = true then .nx (ρ2.set i none) S2 else .no
    | _ => .no) else .no
  | o => o
/-- f(..), f a local that holds one of the defs of the table -/
def iCallT (i : Nat) (tab : List (Str × Fn)) (a : IA) : IE := fun ρ S => match ρ[i]? with
  | some (some (.gl n)) => match tab.lookup n with
    | some f => (a ρ S).bind f
    | none => .no
  | _ => .no

/-- (a, ..) * n -/
def fMulT : Va → Va → Sto → R Va
  | .ref a, .int k, S => match S[a]? with
    | some (.tup xs) => if xs ≠ [] ∧ 2 ≤ k ∧ k ≤ 1000 ∧ xs.length ≤ 1000 then .ok (.ref S.length) (S ++ [.tup (List.replicate k.toNat xs).flatten]) else .no
    | _ => .no
  | _, _, _ => .no
end IL

end
section
set_option Elab.async false
set_option linter.all false
set_option maxRecDepth 100000
set_option maxHeartbeats 2000000
namespace IL
open PySem L2
/-! ### soundness -/
def WV (g : Gm) (WW : WX) : WH := fun c σ H => WW (.ref (g.γ c)) none σ H
abbrev WD (g : Gm) (E : XK) : WH := WV g fun cls d _ H => E cls d H
def iSpX (g : Gm) (f : Fn) : Sp := fun vs H Q E => ∃ ι S xs, Sim g ι S H ∧ VRs g ι xs vs ∧ P g ι H (fun c H' => E (.ref (g.γ c)) none H') (fun x ι' H' => ∀ v, VR g ι' x v → Q v H') (f xs S)
section
variable {g : Gm} {W : WH} {ι : List Addr} {S : Sto} {H : Hp} {ta tb te : TE} {ia ib ie : IE} {t u : TS} {i j : IS} {D : Ends} {ρ : Env} {σ : St} {E : XK}
theorem sx_call {f : Fn} {tA : TA} {iA : IA} (ha : SdA g (WD g E) tA iA) : SdE g (WD g E) (tCall (iSpX g f) [] E tA) (iCall f iA) := fun ι ρ S σ H Q s e h =>
  ha ι ρ S σ H _ s e (h.then fun xs ι1 S1 H1 l s1 h1 vs r => ⟨ι1, S1, xs, s1, by rw [List.append_nil]; exact r, h1⟩)
theorem sx_call0 {f : Fn} {tA : TA} {iA : IA} (ha : SdA g W0 tA iA) : SdE g W0 (tCall (iSpX g f) [] E0 tA) (iCall f iA) := fun ι ρ S σ H Q s e h =>
  ha ι ρ S σ H _ s e (h.then fun xs ι1 S1 H1 l s1 h1 vs r => ⟨ι1, S1, xs, s1, by rw [List.append_nil]; exact r, h1⟩)
theorem sx_make {c : Str} {C : Addr} {f : Fn} {tA : TA} {iA : IA} (hC : g.γ c = C) (ha : SdA g (WD g E) tA iA) : SdE g (WD g E) (tMake C (iSpX g f) [] E tA) (iMake c f iA) := fun ι ρ S σ H Q s e h =>
  ha ι ρ S σ H _ s e (h.then fun xs ι1 S1 H1 l s1 h1 vs r x dx hx hdx hne => by
    subst hC
    have hx' : upd H1 dx (.own x) x = none := by rw [upd_ne (Ne.symm hne)]; exact hx
    have s2 : Sim g ι1 S1 (upd H1 dx (.own x)) := s1.more hdx
    have s3 : Sim g (ι1 ++ [x]) (S1 ++ [.obj c []]) (upd (upd H1 dx (.own x)) x (.ins (g.γ c) dx [])) := s2.alloc hx' ⟨dx, [], upd_same, .nil⟩
    have e0 : Ext ι1 H1 (ι1 ++ [x]) (upd (upd H1 dx (.own x)) x (.ins (g.γ c) dx [])) := (Ext.new hdx).trans (Ext.snoc hx')
    have nr : VR g (ι1 ++ [x]) (.ref S1.length) (.ref x) := s1.newRef
    refine ⟨ι1 ++ [x], _, .ref S1.length :: xs, s3, .cons nr (by rw [List.append_nil]; exact r.mono e0.le), ?_⟩
    refine (h1.thenB e0 fun v ι' S' H' l' s' h' u vu => ?_)
    cases v with
    | non => exact ⟨vu, h' ι' H' (e0.trans l') s' _ (nr.mono l'.le)⟩
    | _ => exact h'.elim)
theorem sx_make0 {c : Str} {C : Addr} {f : Fn} {tA : TA} {iA : IA} (hC : g.γ c = C) (ha : SdA g W0 tA iA) : SdE g W0 (tMake C (iSpX g f) [] E0 tA) (iMake c f iA) := sx_make (E := E0) hC ha
theorem sx_meth {c : Str} {C : Addr} {m : Str} {f : Fn} {tA : TA} {iA : IA} (hC : g.γ c = C) (ho : SdE g (WD g E) ta ia) (ha : SdA g (WD g E) tA iA) : SdE g (WD g E) (tMeth C m (iSpX g f) [] E ta tA) (iMeth c m f ia iA) := fun ι ρ S σ H Q s e h =>
  ho ι ρ S σ H _ s e (h.then fun x ι1 S1 H1 l s1 h1 v vx => by
    subst hC
    try dsimp only at h1
    split at h1
    · rename_i c' fs eo
      split at h1
      · rename_i hc
        obtain ⟨a, dx, vs, rfl, hp, r⟩ := getO_ok s1 vx eo
        obtain ⟨hc1, hc2⟩ := hc
        subst hc1
        exact ⟨a, dx, vs, rfl, hp, fr_lookupN r hc2, ha ι1 ρ S1 σ H1 _ s1 (e.mono l.le) (h1.then fun xs ι2 S2 H2 l2 s2 h2 ws r2 => ⟨ι2, S2, x :: xs, s2, .cons (vx.mono l2.le) (by rw [List.append_nil]; exact r2), h2⟩)⟩
      · exact h1.elim
    · exact h1.elim)
theorem sx_meth0 {c : Str} {C : Addr} {m : Str} {f : Fn} {tA : TA} {iA : IA} (hC : g.γ c = C) (ho : SdE g W0 ta ia) (ha : SdA g W0 tA iA) : SdE g W0 (tMeth C m (iSpX g f) [] E0 ta tA) (iMeth c m f ia iA) := sx_meth (E := E0) hC ho ha
/-- a, b, .. = .. where what is wished for does not hang on the slots -/
theorem sgx_tup {n : Nat} {gs : TGs} {tgs : List IG} (h1 : SdGs g (WD g E) gs tgs) : SdG g (WD g E) (gTup g.K n gs) (tgTupN n tgs) := fun ι S ρ σ H it v Q s e r h => by
  cases it with
  | one x =>
    simp only [tgTupN] at h
    cases ex : getT S x with
    | none => rw [ex] at h; exact h.elim
    | some xs =>
      rw [ex] at h
      dsimp only at h
      split at h
      · rename_i hn
        obtain ⟨a, vs, rfl, ha, rv⟩ := getT_ok s r ex
        exact ⟨a, vs, rfl, SqT.of ha, by rw [← Paired.len rv]; exact hn, h1 ι S ρ σ H xs vs Q s e rv (h.wmono fun c H z σ' => z)⟩
      · exact h.elim
  | tup xs =>
    obtain ⟨T, vs, rfl, hT, rv⟩ := r
    simp only [tgTupN] at h
    split at h
    · rename_i hn
      exact ⟨T, vs, rfl, SqT.of hT, by rw [← Paired.len rv]; exact hn, h1 ι S ρ σ H xs vs Q s e rv (h.wmono fun c H z σ' => z)⟩
    · exact h.elim
theorem sx_raise {c : Str} {C : Addr} (hC : g.γ c = C) : SdS g (WD g E) (fun _ _ H => E (.ref C) none H) (sRaise c) := fun ι ρ S σ H D s e h => by
  subst hC
  exact h _ σ _ (Ext.refl _ _) s e
theorem iSpX_len {p n : Nat} {body : IS} {ps : List Str} (hp : ps.length = p) : ∀ vs H Q E, iSpX g (mkFn p n body) vs H Q E → vs.length = ps.length := by
  rintro vs H Q E ⟨ι, S, xs, s, r, h⟩
  rw [hp, ← Paired.len r]
  exact P_len h
theorem bodyX {N : List Str} {p n : Nat} {b : IS} {t : TS} {vs : List V} {Q : VK} {E : XK} (h : iSpX g (mkFn p n b) vs H Q E) (hn : N.length = n) (hb : SdS g (WD g E) t b) : t { nx := fun _ H' => Q .non H', rt := Q } (L2.start N vs) H := by
  obtain ⟨ι, S, xs, s, r, h⟩ := h
  subst hn
  refine hb ι _ S _ H _ s (er_start r) ?_
  unfold mkFn at h
  rw [if_pos (P_len h)] at h
  cases hr : b (xs.map some ++ List.replicate (N.length - xs.length) none) S with
  | nx ρ' S' => rw [hr] at h; exact fun ι' σ' H' l s' e' => h ι' H' l s' _ rfl
  | rt v S' => rw [hr] at h; exact fun ι' v H' l s' r' => h ι' H' l s' _ r'
  | ex c ρ' S' => rw [hr] at h; exact fun ι' σ' H' l s' e' => h ι' H' l s'
  | no => rw [hr] at h; exact h.elim
/-! the error that a suite holds -/
def Gm.at (g : Gm) (a : Addr) (c : Str) : Gm := { g with ea := some (a, c) }
theorem VR.toE {a : Addr} {c : Str} (h0 : g.ea = none) {x : Va} {v : V} (h : VR g ι x v) : VR (g.at a c) ι x v := by
  cases x with
  | exc d => obtain ⟨b, e, _⟩ := h; rw [h0] at e; cases e
  | _ => exact h
theorem VR.noE (h0 : g.ea = none) {x : Va} {v : V} (h : VR g ι x v) : noV x = true := by
  cases x with
  | exc d => obtain ⟨b, e, _⟩ := h; rw [h0] at e; cases e
  | _ => rfl
theorem VR.ofE {a : Addr} {c : Str} {x : Va} {v : V} (hn : noV x = true) (h : VR (g.at a c) ι x v) : VR g ι x v := by
  cases x with
  | exc d => cases hn
  | _ => exact h
theorem VRs.toE {a : Addr} {c : Str} (h0 : g.ea = none) {x : List Va} {v : List V} (h : VRs g ι x v) : VRs (g.at a c) ι x v := Paired.imp (fun _ _ => VR.toE h0) h
theorem VRs.noE (h0 : g.ea = none) : ∀ {xs : List Va} {vs : List V}, VRs g ι xs vs → xs.all noV = true
  | _, _, .nil => rfl
  | _, _, .cons r t => by rw [List.all_cons, VR.noE h0 r, VRs.noE h0 t]; rfl
theorem VRs.ofE {a : Addr} {c : Str} : ∀ {xs : List Va} {vs : List V}, xs.all noV = true → VRs (g.at a c) ι xs vs → VRs g ι xs vs
  | _, _, _, .nil => .nil
  | _, _, h, .cons r t => by
    rw [List.all_cons, Bool.and_eq_true] at h
    exact .cons (VR.ofE h.1 r) (VRs.ofE h.2 t)
theorem paired_all {α β : Type} {F : α → β → Prop} {p : α → Bool} (f : ∀ a b, F a b → p a = true) : ∀ {xs : List α} {us : List β}, Paired F xs us → xs.all p = true
  | _, _, .nil => rfl
  | _, _, .cons r t => by rw [List.all_cons, f _ _ r, paired_all f t]; rfl
theorem paired_imp2 {α β : Type} {F G : α → β → Prop} {p : α → Bool} (f : ∀ a b, p a = true → F a b → G a b) : ∀ {xs : List α} {us : List β}, xs.all p = true → Paired F xs us → Paired G xs us
  | _, _, _, .nil => .nil
  | _, _, h, .cons r t => by
    rw [List.all_cons, Bool.and_eq_true] at h
    exact .cons (f _ _ h.1 r) (paired_imp2 f h.2 t)
theorem ObR.toE {a : Addr} {c : Str} (h0 : g.ea = none) {p : Addr} {o : Ob} (h : ObR g ι H p o) : ObR (g.at a c) ι H p o := by
  cases o with
  | lst xs => obtain ⟨vs, h1, h2⟩ := h; exact ⟨vs, h1, h2.toE h0⟩
  | tup xs => obtain ⟨vs, h1, h2⟩ := h; exact ⟨vs, h1, h2.toE h0⟩
  | dic es => obtain ⟨vs, h1, h2⟩ := h; exact ⟨vs, h1, Paired.imp (fun _ _ q => ⟨q.1, q.2.toE h0⟩) h2⟩
  | obj c fs => obtain ⟨dx, vs, h1, h2⟩ := h; exact ⟨dx, vs, h1, Paired.imp (fun _ _ q => ⟨q.1, q.2.toE h0⟩) h2⟩
  | hid => exact h
  | clo i vs =>
    obtain ⟨k, cl, h1, h2, h3⟩ := h
    refine ⟨k, cl, h1, h2, ?_⟩
    cases vs with
    | none => exact h3
    | some xs => obtain ⟨ws, h4, h5⟩ := h3; exact ⟨ws, ⟨h4.len, fun j x e => let ⟨v, e1, e2⟩ := h4.at_ j x e; ⟨v, e1, e2.toE h0⟩⟩, h5⟩
theorem ObR.noE (h0 : g.ea = none) {p : Addr} {o : Ob} (h : ObR g ι H p o) : noO o = true := by
  cases o with
  | lst xs => obtain ⟨vs, h1, h2⟩ := h; exact h2.noE h0
  | tup xs => obtain ⟨vs, h1, h2⟩ := h; exact h2.noE h0
  | dic es => obtain ⟨vs, h1, h2⟩ := h; exact paired_all (p := fun e : Int × Va => noV e.2) (fun _ _ q => q.2.noE h0) h2
  | obj c fs => obtain ⟨dx, vs, h1, h2⟩ := h; exact paired_all (p := fun e : Str × Va => noV e.2) (fun _ _ q => q.2.noE h0) h2
  | hid => rfl
  | clo i vs =>
    obtain ⟨k, cl, h1, h2, h3⟩ := h
    cases vs with
    | none => rfl
    | some xs =>
      obtain ⟨ws, h4, h5⟩ := h3
      refine List.all_eq_true.mpr fun x hx => ?_
      cases x with
      | none => rfl
      | some y =>
        obtain ⟨j, hj⟩ := List.mem_iff_getElem?.mp hx
        obtain ⟨v, _, e2⟩ := h4.at_ j y hj
        exact e2.noE h0
theorem ObR.ofE {a : Addr} {c : Str} {p : Addr} {o : Ob} (hn : noO o = true) (h : ObR (g.at a c) ι H p o) : ObR g ι H p o := by
  cases o with
  | lst xs => obtain ⟨vs, h1, h2⟩ := h; exact ⟨vs, h1, h2.ofE hn⟩
  | tup xs => obtain ⟨vs, h1, h2⟩ := h; exact ⟨vs, h1, h2.ofE hn⟩
  | dic es => obtain ⟨vs, h1, h2⟩ := h; exact ⟨vs, h1, paired_imp2 (p := fun e : Int × Va => noV e.2) (fun _ _ n q => ⟨q.1, q.2.ofE n⟩) hn h2⟩
  | obj c fs => obtain ⟨dx, vs, h1, h2⟩ := h; exact ⟨dx, vs, h1, paired_imp2 (p := fun e : Str × Va => noV e.2) (fun _ _ n q => ⟨q.1, q.2.ofE n⟩) hn h2⟩
  | hid => exact h
  | clo i vs =>
    obtain ⟨k, cl, h1, h2, h3⟩ := h
    refine ⟨k, cl, h1, h2, ?_⟩
    cases vs with
    | none => exact h3
    | some xs =>
      obtain ⟨ws, h4, h5⟩ := h3
      exact ⟨ws, ⟨h4.len, fun j x e => let ⟨v, e1, e2⟩ := h4.at_ j x e; ⟨v, e1, e2.ofE (List.all_eq_true.mp hn (some x) (List.mem_of_getElem? e))⟩⟩, h5⟩
theorem Sim.toE {a : Addr} {c : Str} (h0 : g.ea = none) (s : Sim g ι S H) : Sim (g.at a c) ι S H := ⟨s.nd, s.len, fun n o p e1 e2 => (s.ob n o p e1 e2).toE h0, s.sc, s.tb⟩
theorem Sim.ofE {a : Addr} {c : Str} {ι2 : List Addr} {S2 : Sto} {H2 : Hp} (h0 : g.ea = none) (s : Sim g ι S H) (s2 : Sim (g.at a c) ι2 S2 H2) (ok : okE S S2 = true) : Sim g ι2 S2 H2 := by
  unfold okE at ok
  rw [Bool.and_eq_true, decide_eq_true_eq] at ok
  refine ⟨s2.nd, s2.len, fun n o p e1 e2 => (s2.ob n o p e1 e2).ofE ?_, s2.sc, s2.tb⟩
  by_cases hn : n < S.length
  · have e3 : S[n]? = some o := by
      rw [← ok.1, List.getElem?_take_of_lt hn]; exact e1
    obtain ⟨b, _, hb⟩ := s.at_ e3
    exact hb.noE h0
  · have e3 : (S2.drop S.length)[n - S.length]? = some o := by
      rw [List.getElem?_drop, show S.length + (n - S.length) = n by omega]; exact e1
    exact List.all_eq_true.mp ok.2 o (List.mem_of_getElem? e3)
theorem ER.toE {a : Addr} {c : Str} (h0 : g.ea = none) (e : ER g ι ρ σ) : ER (g.at a c) ι ρ σ := ⟨e.len, fun i x q => let ⟨v, h1, h2⟩ := e.at_ i x q; ⟨v, h1, h2.toE h0⟩⟩
theorem ER.ofE {a : Addr} {c : Str} (hn : ρ.all noR = true) (e : ER (g.at a c) ι ρ σ) : ER g ι ρ σ := ⟨e.len, fun i x q => by
  obtain ⟨v, h1, h2⟩ := e.at_ i x q
  have : noR (some x) = true := List.all_eq_true.mp hn _ (List.mem_of_getElem? q)
  exact ⟨v, h1, h2.ofE this⟩⟩
theorem sx_try {k : Nat} {tb : WX → TS} {ts : Addr → Value → Option Addr → TS} {ib is : IS} {Wout : WX} {CE : Addr} (h0 : g.ea = none) (hx : ∀ c ∈ excL, PySem.W.exmOne g.K (.ref (g.γ c)) (.ref CE) = some true)
    (hb : ∀ WW : WX, SdS g (WV g WW) (tb WW) ib) (hs : ∀ a c, c ∈ excL → SdS (g.at a c) W0 (ts a (.ref (g.γ c)) none) is) : SdS g W (fun D σ H => tb (wAs g.K (.ref CE) k ts Wout D) D σ H) (sTry k ib is) := fun ι ρ S σ H D s e h => by
  refine hb _ ι ρ S σ H D s e ?_
  unfold sTry at h
  cases hi : ib ρ S with
  | nx ρ1 S1 => rw [hi] at h; exact h
  | rt v S1 => rw [hi] at h; exact h
  | no => rw [hi] at h; exact h.elim
  | ex c ρ1 S1 =>
    rw [hi] at h
    dsimp only at h
    intro ι1 σ1 H1 l1 s1 e1
    split at h
    · rename_i hc
      refine ⟨true, hx c hc, fun _ a na => ?_, fun z => by cases z⟩
      have e2 : ER (g.at a c) ι1 (ρ1.set k (some (.exc c))) (σ1.set k (some (.ref a))) := (e1.toE h0).set k ⟨a, rfl, rfl⟩
      refine hs a c hc ι1 (ρ1.set k (some (.exc c))) S1 (σ1.set k (some (.ref a))) H1 _ (s1.toE h0) e2 ?_
      cases hj : is (ρ1.set k (some (.exc c))) S1 with
      | rt v S2 =>
        rw [hj] at h
        dsimp only at h
        split at h
        · rename_i hk
          exact fun ι2 v2 H2 l2 s2 r2 => h ι2 v2 H2 (l1.trans l2) (s1.ofE h0 s2 hk.1) (r2.ofE hk.2)
        · exact h.elim
      | nx ρ2 S2 =>
        rw [hj] at h
        dsimp only at h
        split at h
        · rename_i hk
          exact fun ι2 σ2 H2 l2 s2 r2 => h ι2 (σ2.set k none) H2 (l1.trans l2) (s1.ofE h0 s2 hk.1) ((r2.unset k).ofE hk.2)
        · exact h.elim
      | ex c' ρ2 S2 => rw [hj] at h; exact h.elim
      | no => rw [hj] at h; exact h.elim
    · exact h.elim
/-- isinstance(error, x) -/
def tIsE (g : Gm) (a : Addr) (cls : Value) (d : Option Addr) (k : Nat) (x : Str) : TE := fun σ H Q => ∃ c, c ∈ excL ∧ cls = .ref (g.γ c) ∧ d = none ∧ σ[k]? = some (some (.ref a)) ∧ Q (.bl (eIs x c)) H
theorem sx_isE {a : Addr} {c : Str} {k : Nat} {x : Str} (hc : c ∈ excL) : SdE (g.at a c) W (tIsE g a (.ref (g.γ c)) none k x) (iIsE k x) := fun ι ρ S σ H Q s e h => by
  unfold iIsE at h
  split at h
  · rename_i c' hv
    obtain ⟨v, h1, b, h2, rfl⟩ := e.at_ k _ hv
    have h3 : some (a, c) = some (b, c') := h2
    cases h3
    exact ⟨c, hc, rfl, rfl, h1, h ι H (Ext.refl _ _) s _ rfl⟩
  · exact h.elim
/-- a local called -/
def tCallT (g : Gm) (k : Nat) (tab : List (Str × Fn)) (WW : WX) (tA : TA) : TE := fun σ H Q => ∃ n f, σ[k]? = some (some (.ref (g.γ n))) ∧ tab.lookup n = some f ∧ tA σ H fun vs H1 => iSpX g f vs H1 Q (WE WW σ)
theorem sx_callT {k : Nat} {tab : List (Str × Fn)} {WW : WX} {tA : TA} {iA : IA} (ha : SdA g (WV g WW) tA iA) : SdE g (WV g WW) (tCallT g k tab WW tA) (iCallT k tab iA) := fun ι ρ S σ H Q s e h => by
  unfold iCallT at h
  split at h
  · rename_i n hn
    split at h
    · rename_i f hf
      obtain ⟨v, h1, h2⟩ := e.at_ k _ hn
      cases h2
      exact ⟨n, f, h1, hf, ha ι ρ S σ H _ s e (h.then fun xs ι1 S1 H1 l s1 h1 vs r => ⟨ι1, S1, xs, s1, r, h1⟩)⟩
    · exact h.elim
  · exact h.elim
end
/-! ### the walk's rules -/
open PySem.Spec PyProof.Rows
section
variable {P : Program} {w : World}
variable {K : PySem.W.Frag} {mg : Str → Option Value} {base : Heap}
abbrev CXN (P : Program) (w : World) : CXT := L2N.CX P w
theorem passN0 {X : Cx} : Passes (CXN X.prog X.w) X E0 := fun _ _ _ _ _ _ _ h => by
  obtain ⟨_, _, _, _, _, _, _, _, _, _, _, _, z⟩ := h
  exact z.elim
/-- a def that may raise, by its body -/
theorem okN {x qual : Str} {st : Stmt} {f : Addr} {fd : FuncData} {N ps : List Str} {k : Nat} {sp : Sp} (F : Fun K x qual st f fd) (S : FnScope N ps (defScope st)) (len : ∀ vs H Q E, sp vs H Q E → vs.length = ps.length)
    (hbody : ∀ (cdv : Value) (A : Around) (outer : List PySem.Env) (s : Shared) (H : Hp) (vs : List V) (Q : VK) (E : XK), Room k (A.deeper (envOfC qual (defScope st) s.heap.objs.size f cdv)) → sp vs H Q E →
      ∃ t, PSs (cxOf (CXN P w) P w K mg base N qual (defScope st) f cdv A outer s H E) (defBody st) t ∧ t { nx := fun _ H' => Q .non H', rt := Q } (start N vs) H) : FnOk P w K mg base (CXN P w) (k + 1) f fd ps sp := by
  obtain ⟨_, _, _, _, _, _, cv, _, _, rfl, look, hcode⟩ := F.ex
  exact fn_of look hcode S len fun A0 o0 s0 H0 v0 Q0 E0 r0 q0 => hbody cv A0 o0 s0 H0 v0 Q0 E0 r0 q0
variable {N : List Str} {qual : Str} {sc : Scope} {f : Addr} {cdv : Value} {A : Around} {outer : List PySem.Env} {s : Shared} {H : Hp} {E : XK}
theorem takesD : L2N.Takes (cxOf (CXN P w) P w K mg base N qual sc f cdv A outer s H E) (fun cls d _ H => E cls d H) := L2N.takes_of rfl rfl rfl rfl
theorem passD : Passes (CXN P w) (cxOf (CXN P w) P w K mg base N qual sc f cdv A outer s H E) E := L2N.passes_call takesD fun _ _ _ _ h => h
theorem ownD : PassesOwn (model P w) (cxOf (CXN P w) P w K mg base N qual sc f cdv A outer s H E).A (cxOf (CXN P w) P w K mg base N qual sc f cdv A outer s H E).env (cxOf (CXN P w) P w K mg base N qual sc f cdv A outer s H E).xe := passes_of rfl
end
section
variable {X : Cx} {k : Nat} {x : Str} {C : Addr} {m : Str} {ps : List Str} {sp : Sp} {p pos apos : Pos} {e o : Expr} {es : List Expr} {t : TA} {ta : TE} {E : XK}
theorem px_cal (c : Cal X.prog X.w X.K X.mg X.base (CXN X.prog X.w) k x ps sp) (hr : Room k X.A) (hg : Gl X x) (hx : Passes (CXN X.prog X.w) X E) (ha : PA X (e :: es) t)
    (hdb : (x == ("__debug__" : Str)) = false := by decide)
    (hst : starEach (e :: es) X.env = (false, eval e X.env) :: starEach es X.env := by rfl)
    (hb0 : (backTo pos (starEach es X.env)).any (·.1) = false := by rfl) : PE X (.Call (.Name x p) (e :: es) [] pos) (tCall sp [] E t) := by
  obtain ⟨f, fd, F, hm, hk, hb⟩ := c.ex
  exact pe_call F hr hg hm hk hb .nil hx ha hdb hst hb0
theorem px_cal0 (c : Cal X.prog X.w X.K X.mg X.base (CXN X.prog X.w) k x ps sp) (hr : Room k X.A) (hg : Gl X x) (hx : Passes (CXN X.prog X.w) X E)
    (hdb : (x == ("__debug__" : Str)) = false := by decide) : PE X (.Call (.Name x p) [] [] pos) (tCall sp [] E tNil) := by
  obtain ⟨f, fd, F, hm, hk, hb⟩ := c.ex
  exact pe_call0 F hr hg hm hk hb .nil hx hdb
structure MkcX (P : Program) (w : World) (K : PySem.W.Frag) (mg : Str → Option Value) (base : Heap) (k : Nat) (x : Str) (C : Addr) (ps : List Str) (sp : Sp) : Prop where
  ex : ∃ f fd, FnOk P w K mg base (CXN P w) k f fd ps sp ∧ Mk K C f ∧ mg x = some (.ref C) ∧ Binds K fd ps []
theorem px_mkc (c : MkcX X.prog X.w X.K X.mg X.base k x C ps sp) (hr : Room (k + 1) X.A) (hg : Gl X x) (hx : Passes (CXN X.prog X.w) X E) (ha : PA X (e :: es) t)
    (hdb : (x == ("__debug__" : Str)) = false := by decide)
    (hst : starEach (e :: es) X.env = (false, eval e X.env) :: starEach es X.env := by rfl)
    (hb0 : (backTo pos (starEach es X.env)).any (·.1) = false := by rfl) : PE X (.Call (.Name x p) (e :: es) [] pos) (tMake C sp [] E t) := by
  obtain ⟨f, fd, F, M, hm, hb⟩ := c.ex
  exact pe_make M F hr hg hm hb .nil hx ha hdb hst hb0
structure McalX (P : Program) (w : World) (K : PySem.W.Frag) (mg : Str → Option Value) (base : Heap) (k : Nat) (C : Addr) (m : Str) (ps : List Str) (sp : Sp) : Prop where
  ex : ∃ f fd, FnOk P w K mg base (CXN P w) k f fd ps sp ∧ Cls K C ∧ Meth K C m f ∧ Binds K fd ps []
theorem px_mcal {pl : Sem Bool} (c : McalX X.prog X.w X.K X.mg X.base k C m ps sp) (hr : Room k X.A) (hx : Passes (CXN X.prog X.w) X E) (he : PE X o ta) (ha : PA X (e :: es) t)
    (hst : starEach (e :: es) X.env = (false, eval e X.env) :: starEach es X.env := by rfl)
    (hb0 : (backTo pos (starEach es X.env)).any (·.1) = false := by rfl) (hev : eval (.Call (.Attribute o m apos) (e :: es) [] pos) X.env = (do
      let rv ← eval o X.env
      standAt apos.atName
      let (mf, one) ← holding [rv] (getMethod rv m pl)
      callWith pos mf one (backTo pos (starEach (e :: es) X.env)) (backToKw pos (keywordEach [] X.env))) := by rfl) : PE X (.Call (.Attribute o m apos) (e :: es) [] pos) (tMeth C m sp [] E ta t) := by
  obtain ⟨f, fd, F, cl, M, hb⟩ := c.ex
  exact pe_meth he cl M F hr hb .nil hx ha hst hb0 hev
/-- the defs of a table -/
def TabOk (P : Program) (w : World) (K : PySem.W.Frag) (mg : Str → Option Value) (base : Heap) (k : Nat) (g : Gm) (tab : List (Str × Fn)) : Prop :=
  ∀ n f, tab.lookup n = some f → ∃ j ps fd, j ≤ k ∧ FnOk P w K mg base (CXN P w) j (g.γ n) fd ps (iSpX g f) ∧ PySem.W.keepIn K (.ref (g.γ n)) = true ∧ Binds K fd ps []
theorem tab_nil {P : Program} {w : World} {K : PySem.W.Frag} {mg : Str → Option Value} {base : Heap} {k : Nat} {g : Gm} : TabOk P w K mg base k g [] := fun n f h => by cases h
theorem tab_cons {P : Program} {w : World} {K : PySem.W.Frag} {mg : Str → Option Value} {base : Heap} {k j : Nat} {g : Gm} {n : Str} {f : Fn} {ps : List Str} {tab : List (Str × Fn)} (hj : j ≤ k) (hm : mg n = some (.ref (g.γ n))) (c : Cal P w K mg base (CXN P w) j n ps (iSpX g f)) (t : TabOk P w K mg base k g tab) : TabOk P w K mg base k g ((n, f) :: tab) := fun n' f' h => by
  rw [List.lookup_cons] at h
  split at h
  · rename_i hb
    have e : n' = n := beq_iff_eq.mp hb
    subst e
    cases h
    obtain ⟨fa, fd, F, hm', hk, hb⟩ := c.ex
    rw [hm] at hm'
    cases hm'
    exact ⟨j, ps, fd, hj, F, hk, hb⟩
  · exact t n' f' h
theorem px_callT {i : Nat} {g : Gm} {tab : List (Str × Fn)} {WW : WX} (T : TabOk X.prog X.w X.K X.mg X.base k g tab) (hr : Room k X.A) (hN : X.N[i]? = some x) (hv : Vis X.env.scope x) (tk : L2N.Takes X WW) (ha : PA X (e :: es) t)
    (hdb : (x == ("__debug__" : Str)) = false := by decide)
    (hcd : (x == ("__classdict__" : Str)) = false := by decide) (hst : starEach (e :: es) X.env = (false, eval e X.env) :: starEach es X.env := by rfl)
    (hb0 : (backTo pos (starEach es X.env)).any (·.1) = false := by rfl) : PE X (.Call (.Name x p) (e :: es) [] pos) (tCallT g i tab WW t) := by
  refine ⟨fun pp s σ H Q I h => ?_⟩
  obtain ⟨n, f, hs, hf, ht⟩ := h
  obtain ⟨j, ps, fd, hj, F, hk, hb⟩ := T n f hf
  refine wpAny_Call_Name_kw (thn ((pe_var (pos := p) hN hv hdb hcd).run pp s σ H (fun v H1 => v = .ref (g.γ n) ∧ H1 = H) I ⟨_, hs, rfl, rfl⟩) fun u s1 ⟨v, H1, I1, r1, q1⟩ => ?_)
  obtain ⟨rfl, rfl⟩ := q1
  cases r1
  exact PySem.W.callWith_K (h₀ := X.base) I.ok.mod.kin hk (thn (ha.run pos pp s1 σ _ _ I1 ht) fun ws s3 ⟨ys, H3, I3, rr, qq⟩ => ⟨I3.kIn, run_fnS F (hr.mono hj) hb (E := WE WW) (L2N.passAt tk σ) I3 rr qq⟩) hst hb0
end
theorem sr_repT {g : Gm} {W : WH} : SdR g W (rRepT g.K) fMulT := fun ι S H x y v u σ Q s vx vy h => by
  unfold fMulT at h
  split at h
  · rename_i n k
    split at h
    · rename_i xs ex
      split at h
      · rename_i hc
        obtain ⟨a, rfl, ea, vs, ha, r⟩ := s.ref ex vx
        cases vy
        refine ⟨a, k, vs, rfl, rfl, SqT.of ha, fun z => hc.1 (by subst z; cases r; rfl), hc.2.1, hc.2.2.1, by rw [← Paired.len r]; exact hc.2.2.2, fun p hp => ?_⟩
        exact h _ _ (Ext.snoc hp) (s.tup hp (Paired.rep r k.toNat)) _ s.newRef
      · exact h.elim
    · exact h.elim
  · exact h.elim
/-! ### the error's classes -/
structure ExT (g : Gm) : Prop where
  c : ∀ c ∈ excL, ExcC g.K (g.γ c)
  kit : ∀ x ∈ excL, ∀ c ∈ excL, PySem.W.kitOne g.K (.ref (g.γ c)) (.ref (g.γ x)) = some (eIs x c)
  ex : ∀ c ∈ excL, PySem.W.exmOne g.K (.ref (g.γ c)) (.ref (g.γ "EitherError")) = some true
  ea : g.ea = none
theorem px_isE {X : Cx} {g : Gm} {a : Addr} {oe : Obj} {cls : Value} {d : Option Addr} {pn : List (Addr × Obj)} {k : Nat} {x err : Str} {ec : Expr} {v : V} {cv : Value} {p p1 pos : Pos} (hK : X.K = g.K) (hz : L2N.Zn cls d oe) (hf : ∃ vs, oe.data = .fields vs) (hC : ∀ c ∈ excL, ExcC g.K (g.γ c))
    (kit : ∀ c ∈ excL, PySem.W.kitOne g.K (.ref (g.γ c)) cv = some (eIs x c)) (hcv : ∀ u, RelV v u → u = cv) (ha : PA (X.suite a ((a, oe) :: pn)) [.Name err p1, ec] (tCons (tVar k) (tCons (tC v) tNil)))
    (hg : Gl (X.suite a ((a, oe) :: pn)) "isinstance") (hm : X.mg "isinstance" = none)
    (he : starEach [.Name err p1, ec] X.env = (false, eval (.Name err p1) X.env) :: starEach [ec] X.env := by rfl) (hpl : (backTo pos (starEach [ec] X.env)).any (·.1) = false := by rfl) :
    PE (X.suite a ((a, oe) :: pn)) (.Call (.Name "isinstance" p) [.Name err p1, ec] [] pos) (tIsE g a cls d k x) := by
  refine ⟨fun pp s σ H Q I h => ?_⟩
  obtain ⟨c, hc, e1, e2, hs, q⟩ := h
  subst e1 e2
  refine (pe_callB (X := X.suite a ((a, oe) :: pn)) (r := rIsE X.K (g.γ c) a) (call_isE (hK ▸ hC c hc) hz.zc hf) hg hm (by decide +kernel) ha (by decide) (by decide) he hpl).run pp s σ H Q I ?_
  exact ⟨.ref a, hs, v, cv, eIs x c, rfl, hcv, hK ▸ kit c hc, q⟩
theorem exc_all {p : Str → Prop} (h1 : p "BadPeople") (h2 : p "BadTasks") (h3 : p "BadLimits") (h4 : p "BadSharing") (h5 : p "BadPerson") (h6 : p "Unlike") : ∀ c ∈ excL, p c := by
  intro c hc
  unfold excL at hc
  rcases List.mem_cons.mp hc with rfl | hc
  · exact h1
  rcases List.mem_cons.mp hc with rfl | hc
  · exact h2
  rcases List.mem_cons.mp hc with rfl | hc
  · exact h3
  rcases List.mem_cons.mp hc with rfl | hc
  · exact h4
  rcases List.mem_cons.mp hc with rfl | hc
  · exact h5
  rcases List.mem_cons.mp hc with rfl | hc
  · exact h6
  · cases hc
theorem kit_val {K : PySem.W.Frag} {C : Addr} {c : Str} (h : PySem.W.subIn K (.ref C) (.type "ValueError") = some true) : PySem.W.kitOne K (.ref C) (.type "ValueError") = some (eIs "ValueError" c) := by
  have e : eIs "ValueError" c = true := by unfold eIs; simp
  rw [e]
  unfold PySem.W.kitOne
  rw [if_neg (by simp)]
  unfold PySem.W.kitCls
  simp only
  rw [if_pos (by decide +kernel)]
  exact h
end IL

end
section
set_option Elab.async false
set_option linter.all false
set_option maxRecDepth 100000
set_option maxHeartbeats 4000000
namespace IL
open PySem PySem.Spec PyProof.Rows L2
section
variable {X : Cx}
/-! ### a comprehension in an except suite -/
theorem lc_hot {ps : List (Addr × Obj)} {s : Shared} {σ : L2.St} {H : Hp} {Q : VK} {el tg itr : Expr} {ifs : List Expr} {scp : Scope} {ow : List (Str × Nat)} {po pos' : Pos} {wi : TI} {gg : TG} {tt : TT} {te : TE} {us : Option (Value → Sem Unit)} {Qe : Value → Shared → Prop}
    (q : Addr × Obj) (hq : q ∈ X.pn) (hot : L2H.Hot1 X.A q) (nod : X.N.Nodup) (I : Inv X ps σ H s) (hi : L2H.PIH X tg itr wi) (ok : BlkOk X.N X.env.scope scp ow)
    (hg : ∀ (sB : Shared) (HB : Hp) (C : Addr) (cl : List (Str × Addr)) (fl : List Addr), PG (X.blk sB HB scp (compEnvC scp cl C X.env) fl) tg gg)
    (ht : ∀ (sB : Shared) (HB : Hp) (C : Addr) (cl : List (Str × Addr)) (fl : List Addr), PTs (X.blk sB HB scp (compEnvC scp cl C X.env) fl) ifs tt)
    (he : ∀ (sB : Shared) (HB : Hp) (C : Addr) (cl : List (Str × Addr)) (fl : List Addr), PE (X.blk sB HB scp (compEnvC scp cl C X.env) fl) el te) (hset : ∀ x, foldedSetIterable itr X.env x = pure x)
    (hw : tLc wi gg tt te (ow.map (·.2)) σ H Q)
    (back : ∀ Ln C s' m H', Inv X ps σ H' s' → Q (.ref Ln) H' → s'.heap.Ns C m → FpOk X ps H' C → compPost (model X.prog X.w) X.A X.xe us Qe (.ref Ln) C (.ok .next) s') :
    wpAny (model X.prog X.w) X.A (comprehension (.ListComp el [⟨tg, itr, ifs, 0⟩] scp po) scp X.env pos' (newList []) false (eval itr X.env) us) Qe X.xe s := by
  have caps : ∀ y ∈ scp.names, y.2 = .free → ∃ c, X.env.cells.lookup y.1 = some c := fun y hy e => (ok.free y hy e).elim (fun k => I.ok.has _ (.inl k)) fun k => I.ok.has _ (.inr k)
  refine wpAny_comprehension_free (use := us) rfl hset (closure_ok caps) ok.kind (fun y hy e => by rw [ok.uniq y hy, e]) (thn (hi.run ps s σ H _ I hw) fun xv s1 hx => thn hx fun itv u2 h2 => ?_)
  obtain ⟨it, fl, tn, J, G2, eit, I2, T, at2, fr2, qq⟩ := h2
  subst eit
  refine wpAny_newObj_type (newEnv_comp ?_) (by show 0 ≤ sizeLine; decide)
  obtain ⟨Ln, hD⟩ : ∃ Ln, u2.heap.objs.size = Ln := ⟨_, rfl⟩
  rw [hD]
  have nD : G2 Ln = none := I2.hok.fresh (Nat.le_of_eq hD)
  obtain ⟨W, ⟨m0, w0⟩, turn⟩ := qq Ln nD
  obtain ⟨u3, hs3⟩ : ∃ u3 : Shared, ({ u2 with heap := u2.heap.push { cls := .type "list", data := .seq ([] : List Value).toArray } } : Shared) = u3 := ⟨_, rfl⟩
  have eh : u3.heap = u2.heap.push { cls := .type "list", data := .seq ([] : List Value).toArray } := by rw [← hs3]
  have up3 : ∀ b o, u2.heap.get? b = some o → u3.heap.get? b = some o := fun b o e => by rw [eh]; exact Heap.get?_push_of_some _ e
  have J3 : Inv X ps σ (upd G2 Ln (.lst [])) u3 := by
    rw [← hs3]
    exact I2.laid (t' := u2.toks) (fun b o e => Heap.get?_push_of_some _ e) (Nat.le_of_eq hD) ⟨Nat.zero_le _, [], 0, .nil, by rw [← hD]; exact Heap.get?_push_size _ rfl⟩
  have fr3 : ∀ b ∈ fl, FpOk X ps (upd G2 Ln (.lst [])) b ∧ b < u3.heap.objs.size := fun b hb => by
    obtain ⟨o, e, _⟩ := T.obj _ _ at2 b hb
    have hlt := Heap.lt_size e
    refine ⟨⟨?_, (fr2 b hb).2⟩, by rw [eh, Heap.size_push]; exact Nat.lt_succ_of_lt hlt⟩
    rw [upd_ne (by rw [← hD]; exact Nat.ne_of_lt hlt)]; exact (fr2 b hb).1
  have at3 : tn 0 u3.heap := T.keep _ _ _ at2 fun b _ o e => up3 b o e
  have J4 := block_start J3 ok nod fr3
  have rg := hg u3 (upd G2 Ln (.lst [])) u3.heap.objs.size (cellsFrom (u3.heap.objs.size + 1) scp.names (cloFrom X.env.cells scp.names [])) fl
  have rt := ht u3 (upd G2 Ln (.lst [])) u3.heap.objs.size (cellsFrom (u3.heap.objs.size + 1) scp.names (cloFrom X.env.cells scp.names [])) fl
  have re := he u3 (upd G2 Ln (.lst [])) u3.heap.objs.size (cellsFrom (u3.heap.objs.size + 1) scp.names (cloFrom X.env.cells scp.names [])) fl
  rw [hs3]
  show codeAny _ _ (.compStart (.ListComp el [⟨tg, itr, ifs, 0⟩] scp po) 0 (.ref it) (.ref Ln) (compEnvC scp (cellsFrom (u3.heap.objs.size + 1) scp.names (cloFrom X.env.cells scp.names [])) u3.heap.objs.size X.env)) (compPost (model X.prog X.w) X.A X.xe us Qe (.ref Ln) u3.heap.objs.size) { u3 with heap := pushCells (u3.heap.push { cls := .type "dict", data := .dict #[] }) scp.names }
  have nfl : ∀ b ∈ fl, (upd G2 Ln (.lst [])) b = none := fun b hb => (fr3 b hb).1.1
  obtain ⟨ev, hce⟩ : ∃ ev, compEnvC scp (cellsFrom (u3.heap.objs.size + 1) scp.names (cloFrom X.env.cells scp.names [])) u3.heap.objs.size X.env = ev := ⟨_, rfl⟩
  rw [hce] at J4 rg rt re ⊢
  have cL : ev.locals = u3.heap.objs.size := by rw [← hce]; rfl
  obtain ⟨G3, hH3⟩ : ∃ G3, upd G2 Ln (.lst []) = G3 := ⟨_, rfl⟩
  rw [hH3] at J3 J4 rg rt re w0 nfl fr3
  obtain ⟨u4, hs4⟩ : ∃ u4 : Shared, ({ u3 with heap := pushCells (u3.heap.push { cls := .type "dict", data := .dict #[] }) scp.names } : Shared) = u4 := ⟨_, rfl⟩
  rw [hs4] at J4 ⊢
  have at4 : tn 0 u4.heap := T.keep _ _ _ at3 fun b _ o e => by rw [← hs4]; exact pushCells_keeps _ _ _ _ (Heap.get?_push_of_some _ e)
  -- the error stays
  obtain ⟨q1, q2, q3, q4, q5⟩ := J3.pin q (List.mem_append_left _ hq)
  have qne : ∀ b ∈ fl, q.1 ≠ b := fun b hb => (fr3 b hb).1.2.2.2.2.2 q (List.mem_append_left _ hq)
  have qst : q.1 ∉ frs X.stack := fun z => by
    rcases List.mem_cons.mp (J3.stkSub _ z) with e | e
    · exact q3 e
    · exact q4 e
  have qn4 : q.1 ≠ ev.locals := by rw [cL]; exact Nat.ne_of_lt (Heap.lt_size q1)
  have pinq : ∀ {σ' : L2.St} {H' : Hp} {s' : Shared}, Inv (X.blk u3 G3 scp ev fl) [] σ' H' s' → Inv (X.blk u3 G3 scp ev fl) [q] σ' H' s' := fun {σ' H' s'} J =>
    ⟨J.ok, J.os, J.bare, J.base, J.loc, J.cell, J.free, J.freeC, fun r hr => by
      have er : r = q := by simpa using (show r ∈ ([] : List (Addr × Obj)) ++ [q] from hr)
      subst er
      exact ⟨J.base.keep _ _ q1 q2 qst (fun z => qne _ z rfl), J.base.free _ _ q1 q2 (fun z => qne _ z rfl), qn4, qst, q5⟩, J.hok, J.len⟩
  have unq : ∀ {r : List (Addr × Obj)} {σ' : L2.St} {H' : Hp} {s' : Shared}, Inv (X.blk u3 G3 scp ev fl) r σ' H' s' → Inv (X.blk u3 G3 scp ev fl) [] σ' H' s' := fun {r σ' H' s'} J =>
    ⟨J.ok, J.os, J.bare, J.base, J.loc, J.cell, J.free, J.freeC, fun r hr => absurd (show r ∈ ([] : List (Addr × Obj)) ++ [] from hr) (by simp), J.hok, J.len⟩
  have hotB : L2H.HotC ((X.blk u3 G3 scp ev fl).tr ([] ++ [q]) fun _ _ => False) := ⟨q, hot, List.mem_append_right _ List.mem_cons_self⟩
  have stat : ∀ {σ' : L2.St} {H' : Hp} {s' : Shared}, Inv (X.blk u3 G3 scp ev fl) [] σ' H' s' → (∀ b ∈ fl, H' b = none) → ∀ b ∈ fl, FpOk ((X.blk u3 G3 scp ev fl).tr ([] ++ [q]) fun _ _ => False) [] H' b := fun {σ' H' s'} J hns b hb =>
    ⟨hns b hb, (J.ok.exf b hb).1, J.ok.exfs b hb, .inl hb, fun x c e => (J.ok.exf b hb).2 x c e, fun r hr => by
      have er : r = q := by simpa using (show r ∈ (([] : List (Addr × Obj)) ++ [q]) ++ [] from hr)
      subst er
      exact qne b hb⟩
  have statB : ∀ {σ' : L2.St} {H' : Hp} {s' : Shared}, Inv (X.blk u3 G3 scp ev fl) [] σ' H' s' → (∀ b ∈ fl, H' b = none) → ∀ b ∈ fl, FpOk (X.blk u3 G3 scp ev fl) [] H' b := fun {σ' H' s'} J hns b hb =>
    ⟨hns b hb, (J.ok.exf b hb).1, J.ok.exfs b hb, .inl hb, fun x c e => (J.ok.exf b hb).2 x c e, fun r hr => absurd (show r ∈ ([] : List (Addr × Obj)) ++ [] from hr) (by simp)⟩
  have turns : codeAny (model X.prog X.w) X.A (.compLoop (.ListComp el [⟨tg, itr, ifs, 0⟩] scp po) 0 (.ref it) (.ref Ln) ev) (compPost (model X.prog X.w) X.A X.xe us Qe (.ref Ln) u3.heap.objs.size) u4 := by
    refine compLoop_any (fun n sN => ∃ k HN, Inv (X.blk u3 G3 scp ev fl) [] (wipe σ (ow.map (·.2))) HN sN ∧ tn k sN.heap ∧ (∀ b ∈ fl, HN b = none) ∧ W k n HN) ?_ m0 ⟨0, G3, J4, at4, nfl, w0⟩
    rintro n u5 ⟨k, G5, J5, at5, n5, w5⟩
    rcases turn k n G5 w5 with ⟨stop, qd⟩ | ⟨go, Nx, hNx, step⟩
    · refine thnF (T.done ((X.blk u3 G3 scp ev fl).tr ([] ++ [q]) fun _ _ => False) rfl rfl rfl hotB k [] u5 _ G5 (fun _ _ => False) ((pinq J5).toTry _) (stat J5 n5) at5 stop) fun r u6 ⟨hr, I6t⟩ => ?_
      subst hr
      have J6 : Inv (X.blk u3 G3 scp ev fl) [] (wipe σ (ow.map (·.2))) G5 u6 := unq (I6t.ofTry J5.ok)
      have J7 : Inv X ps σ G5 u6 := J3.call' (ch := fl) J6.os J6.base J6.hok J6.bare fun b hb => ⟨(fr3 b hb).1.2.2.2.1, (fr3 b hb).1.2.1, (fr3 b hb).1.2.2.2.2.1, (fr3 b hb).1.2.2.2.2.2⟩
      have nC : G5 u3.heap.objs.size = none := by rw [← cL]; exact J6.free
      obtain ⟨m, hns, _⟩ := J6.loc
      have hns : u6.heap.Ns ev.locals m := hns
      rw [cL] at hns
      exact back Ln u3.heap.objs.size u6 m G5 J7 qd hns (J3.fpOk (Nat.le_refl _) nC)
    · refine thnF (T.item ((X.blk u3 G3 scp ev fl).tr ([] ++ [q]) fun _ _ => False) rfl rfl rfl hotB k [] u5 _ G5 (fun _ _ => False) ((pinq J5).toTry _) (stat J5 n5) at5 go) fun r u6 ⟨u, hr, h6⟩ => ?_
      subst hr
      refine thnF h6 fun _ u7 ⟨x, G7, I7t, r7, y7, at7, n7⟩ => ?_
      have J7 : Inv (X.blk u3 G3 scp ev fl) [] (wipe σ (ow.map (·.2))) G7 u7 := unq (I7t.ofTry J5.ok)
      have I7' := J7.pinned (statB J7 n7) (T.obj _ _ at7)
      refine thnF (rg.run _ u7 _ G7 x u _ I7' r7 (step x G7 y7)) fun _ u8 ⟨τ8, G8, J8, hv8, z8⟩ => ?_
      refine thnF (rt.run _ u8 τ8 G8 _ J8 z8) fun b u9 ⟨G9, J9, z9⟩ => ?_
      have fin : ∀ {sE : Shared} {HE : Hp}, Inv (X.blk u3 G3 scp ev fl) ([] ++ pinsAt fl u7.heap) τ8 HE sE → Nx HE → ∃ m, m < n ∧ ∃ j HN, Inv (X.blk u3 G3 scp ev fl) [] (wipe σ (ow.map (·.2))) HN sE ∧ tn j sE.heap ∧ (∀ b ∈ fl, HN b = none) ∧ W j m HN := fun {sE HE} J nx => by
        obtain ⟨m', hm, w'⟩ := hNx HE nx
        have keep7 : ∀ b ∈ fl, ∀ o, u7.heap.get? b = some o → sE.heap.get? b = some o ∧ HE b = none := fun b hb o e =>
          have z := J.pin (b, o) (List.mem_append_right _ (List.mem_append_right _ (mem_pinsAt hb e)))
          ⟨z.1, z.2.1⟩
        have hlen : (wipe σ (ow.map (·.2))).length = τ8.length := by rw [← hv8, wipe_length]
        refine ⟨m', hm, k + 1, HE, (unq J).weak hlen (fun j v e => ?_), T.keep _ _ _ at7 fun b hb o e => (keep7 b hb o e).1, fun b hb => ?_, w'⟩
        · rw [← hv8] at e; exact (wipe_some e).1
        · obtain ⟨o, e, _⟩ := T.obj _ _ at7 b hb; exact (keep7 b hb o e).2
      cases b with
      | false => simp only [Bool.false_eq_true, if_false] at z9 ⊢; exact fin J9 z9
      | true =>
        simp only [if_true] at z9 ⊢
        exact thnF (re.run _ u9 τ8 G9 _ J9 z9) fun z u10 ⟨yv, G10, J10, r10, acc, hD10, hz10, nx⟩ => app_ok (X := X.blk u3 G3 scp ev fl) J10 hD10 hz10 r10 fun u11 J11 => fin J11 nx
  exact codeAny_compStart_list turns (T.self X.A 0 _ _ _ at4 turns)
theorem px_lcH {elt tg iter : Expr} {ifs : List Expr} {scope : Scope} {own : List (Str × Nat)} {pos : Pos} {wi : TI} {gg : TG} {tt : TT} {te : TE} (hot : ∃ q ∈ X.pn, L2H.Hot1 X.A q) (nod : X.N.Nodup) (hi : L2H.PIH X tg iter wi) (ok : BlkOk X.N X.env.scope scope own)
    (hg : ∀ (sB : Shared) (HB : Hp) (C : Addr) (cl : List (Str × Addr)) (fp : List Addr), PG (X.blk sB HB scope (compEnvC scope cl C X.env) fp) tg gg)
    (ht : ∀ (sB : Shared) (HB : Hp) (C : Addr) (cl : List (Str × Addr)) (fp : List Addr), PTs (X.blk sB HB scope (compEnvC scope cl C X.env) fp) ifs tt)
    (he : ∀ (sB : Shared) (HB : Hp) (C : Addr) (cl : List (Str × Addr)) (fp : List Addr), PE (X.blk sB HB scope (compEnvC scope cl C X.env) fp) elt te) (hset : ∀ x, foldedSetIterable iter X.env x = pure x := by intro _; rfl) :
    PE X (.ListComp elt [⟨tg, iter, ifs, 0⟩] scope pos) (tLc wi gg tt te (own.map (·.2))) := by
  obtain ⟨q, hq, hh⟩ := hot
  refine ⟨fun ps s σ H Q I hw => ?_⟩
  rw [eval_ListComp]
  refine lc_hot q hq hh nod I hi ok hg ht he hset hw fun D C s' m H' I' qd hn ff => ⟨m, hn, fun h'' sb => ?_⟩
  obtain ⟨a0, a1, _, a3, a4, a5⟩ := ff
  exact ⟨.ref D, H', I'.turned (t' := s'.toks) (fun b o hb e => (sb.2 b hb).trans e) a0 a1 a3 a4 a5, rfl, qd⟩
theorem op_eqG {K : PySem.W.Frag} (hK : X.K = K) (hu : X.A.units + 64 < cLine) : OpR X (compareOp .Eq) (rEqD K) := by
  subst hK
  exact op_eqD hu
theorem hot_suite {a : Addr} {oe : Obj} {cls : Value} {d : Option Addr} {pn : List (Addr × Obj)} (hz : L2N.Zn cls d oe) (hf : ∃ vs, oe.data = .fields vs) : ∃ q ∈ (X.suite a ((a, oe) :: pn)).pn, L2H.Hot1 (X.suite a ((a, oe) :: pn)).A q := by
  obtain ⟨vs, hv⟩ := hf
  exact ⟨(a, oe), List.mem_cons_self, rfl, vs, hv, hz.2.2 vs hv⟩
end
end IL

end
section
set_option Elab.async false
set_option linter.all false
set_option maxRecDepth 100000
set_option maxHeartbeats 4000000
namespace IL
open PySem PySem.Spec PyProof.Rows L2 LamX NdefX
/-! ### cells that stand in the base -/
def CellsB (base : Heap) (cl : List (Str × Addr)) (fr : List Str) (ws : List (Option V)) : Prop := CellsAt cl fr ws base fun _ => none
theorem CellsB.up {base base' : Heap} {cl : List (Str × Addr)} {fr : List Str} {ws : List (Option V)} (k : ∀ b o, base.get? b = some o → base'.get? b = some o) (C : CellsB base cl fr ws) : CellsB base' cl fr ws :=
  ⟨C.len, fun y c e => ⟨rfl, let ⟨v, z⟩ := (C.all y c e).2; ⟨v, z.keeps k⟩⟩, C.inj, fun i y e => let ⟨c, h1, h2⟩ := C.has i y e; ⟨c, h1, fun v ev => let ⟨u, r, z⟩ := h2 v ev; ⟨u, r, z.keeps k⟩⟩⟩
section
variable {X : Cx} {pp : List (Addr × Obj)} {σ : L2.St} {H : Hp} {s : Shared} {cl : List (Str × Addr)} {fr : List Str} {ws : List (Option V)} {js : List Nat}
theorem CellsB.at (C : CellsB X.base cl fr ws) (I : Inv X pp σ H s) : CellsAt cl fr ws s.heap H :=
  ⟨C.len, fun y c e => by
    obtain ⟨v, o, ho, hd⟩ := (C.all y c e).2
    exact ⟨(I.bs c o ho).2, v, o, (I.bs c o ho).1, hd⟩, C.inj, fun i y e => let ⟨c, h1, h2⟩ := C.has i y e; ⟨c, h1, fun v ev => let ⟨u, r, z⟩ := h2 v ev; ⟨u, r, z.keeps I.bk⟩⟩⟩
/-- all that is not followed and is no frame -/
def baseOf (X : Cx) (H : Hp) (s : Shared) : Heap := hidT s.heap fun b => if b ∈ frs X.stack then some (.own 0) else H b
theorem baseOf_get {b : Addr} {o : Obj} (e : s.heap.get? b = some o) (hn : H b = none) (hf : b ∉ frs X.stack) : (baseOf X H s).get? b = some o := hidT_get e (by rw [if_neg hf]; exact hn)
theorem of_baseOf {b : Addr} {o : Obj} (e : (baseOf X H s).get? b = some o) : s.heap.get? b = some o ∧ H b = none ∧ b ∉ frs X.stack := by
  obtain ⟨h1, h2⟩ := of_hidT e
  by_cases hf : b ∈ frs X.stack
  · rw [if_pos hf] at h2; cases h2
  · rw [if_neg hf] at h2; exact ⟨h1, h2, hf⟩
theorem base_up (I : Inv X pp σ H s) : ∀ b o, X.base.get? b = some o → (baseOf X H s).get? b = some o := fun b o e => by
  refine baseOf_get (I.bs b o e).1 (I.bs b o e).2 fun z => ?_
  have q := (I.stack.mem z).1
  rw [e] at q; cases q
theorem env0_up (I : Inv X pp σ H s) : Env0 X.prog X.w X.K X.mg (baseOf X H s) X.A X.stack s H := by
  have k := base_up I
  have M := I.mod
  refine ⟨I.env0.frames, ⟨M.kin.keeps k, M.glob.keeps k, let ⟨mb, h1, h2⟩ := M.blt; ⟨mb, h1.keeps k, h2⟩, M.nolimit.keeps k⟩, fun b o e => ⟨(of_baseOf e).1, (of_baseOf e).2.1⟩, Nat.le_of_eq (hidT_size _ _), funFrames_none I.stack fun L hL => ?_, I.env0.frf, I.hok, I.bare⟩
  cases e : (baseOf X H s).get? L with
  | none => rfl
  | some o => exact absurd hL (of_baseOf e).2.2
/-- a cell is no frame -/
theorem cell_nofr (I : Inv X pp σ H s) (hfn : ∀ x, X.fn x = true) {y : Str} {c : Addr} (e : X.env.cells.lookup y = some c) : c ∉ frs X.stack := fun z => by
  rcases List.mem_cons.mp (I.stkSub _ z) with q | q
  · obtain ⟨v, o, ho, hd⟩ := I.cell y c e
    obtain ⟨m, ⟨o2, es, ep, ho2, hd2, _⟩, _⟩ := I.loc
    rw [q, ho2] at ho
    cases ho
    rw [hd2] at hd; cases hd
  · obtain ⟨_, o, ho, _⟩ := I.ok.funs.mem q
    have h1 := Heap.lt_size ho
    have h2 := I.ok.cab y c (hfn y) e
    exact absurd (Nat.lt_of_lt_of_le h1 h2) (Nat.lt_irrefl _)
/-- the own frame's names that a lambda captures -/
structure Stat (X : Cx) (sc : Scope) (fr : List Str) (js : List Nat) : Prop where
  sFree : ∀ y ∈ sc.names, y.2 = .free → X.env.scope.names.lookup y.1 = some .cell ∨ X.env.scope.names.lookup y.1 = some .free
  sFr : ∀ y ∈ fr, (y, NameKind.free) ∈ sc.names
  sJs : js.map (fun j => X.N[j]?) = fr.map some
/-- what is known of the base that a callee gets -/
structure GoodW (X : Cx) (σ : L2.St) (base' : Heap) : Prop where
  up : ∀ cl fr ws, CellsB X.base cl fr ws → CellsB base' cl fr ws
  own : ∀ sc fr js, Stat X sc fr js → CellsB base' (cloFrom X.env.cells sc.names []) fr (js.map (slotAt σ))
theorem goodW (I : Inv X pp σ H s) (hfn : ∀ x, X.fn x = true) : GoodW X σ (baseOf X H s) := by
  refine ⟨fun cl fr ws C => C.up (base_up I), fun sc fr js S => ?_⟩
  have cp := Caps.made (X := X) I.ok S.sFree S.sFr S.sJs
  have C := cells_of I cp
  have up : ∀ y c v, (cloFrom X.env.cells sc.names []).lookup y = some c → s.heap.IsCell c v → (baseOf X H s).IsCell c v := fun y c v e ⟨o, ho, hd⟩ => ⟨o, baseOf_get ho (C.all y c e).1 (cell_nofr I hfn (cp.sub y c e)), hd⟩
  exact ⟨C.len, fun y c e => ⟨rfl, let ⟨v, z⟩ := (C.all y c e).2; ⟨v, up y c v e z⟩⟩, C.inj, fun i y e => let ⟨c, h1, h2⟩ := C.has i y e; ⟨c, h1, fun v ev => let ⟨u, r, z⟩ := h2 v ev; ⟨u, r, up y c _ h1 z⟩⟩⟩
end
/-! ### a def called from a frame whose cells are lent -/
def tCallW (sp : Heap → Sp) (G : L2.St → Heap → Prop) (E : XK) (t : TA) : TE := fun σ H Q => t σ H fun vs H1 => ∀ base', G σ base' → sp base' vs H1 Q E
section
variable {X : Cx} {CX : CXT} {k : Nat} {x : Str} {ps : List Str} {sp : Heap → Sp} {E : XK} {p pos : Pos} {e : Expr} {es : List Expr} {t : TA}
theorem run_fnW {f : Addr} {fd : FuncData} {base' : Heap} {sp0 : Sp} {pp : List (Addr × Obj)} {σ : L2.St} {H : Hp} {s : Shared} {Q : VK} {us : List Value} {vs : List V} (F : FnOk X.prog X.w X.K X.mg base' CX k f fd ps sp0) (e0 : Env0 X.prog X.w X.K X.mg base' X.A X.stack s H) (hr : Room k X.A) (hb : Binds X.K fd ps []) (hx : Passes CX X E)
    (I : Inv X pp σ H s) (r : Vals vs us) (h : sp0 vs H Q E) : wpAny (model X.prog X.w) X.A (call (.ref f) us) (EP X pp σ Q) X.xe s := by
  have hl : us.length = ps.length := by rw [← r.length]; exact F.len _ _ _ _ h
  have b := hb s us I.kIn (by rw [List.append_nil]; exact hl)
  rw [List.append_nil] at b
  refine wpAny_call (codeAny_mono (F.run X.A X.stack s H ⟨us, []⟩ us vs Q E hr e0 b r h) fun r s' hq => ?_)
  cases r with
  | error e => exact hx pp σ H s e s' I hq
  | ok fl =>
    cases fl with
    | ret u => exact I.after hq
    | next => exact False.elim hq
    | brk => exact False.elim hq
    | cont => exact False.elim hq
theorem px_calW (c : ∀ base', Cal X.prog X.w X.K X.mg base' CX k x ps (sp base')) (hfn : ∀ x, X.fn x = true) (hr : Room k X.A) (hg : Gl X x) (hx : Passes CX X E) (ha : PA X (e :: es) t) (hdb : (x == ("__debug__" : Str)) = false := by decide)
    (hst : starEach (e :: es) X.env = (false, eval e X.env) :: starEach es X.env := by rfl)
    (hb0 : (backTo pos (starEach es X.env)).any (·.1) = false := by rfl) : PE X (.Call (.Name x p) (e :: es) [] pos) (tCallW sp (GoodW X) E t) := by
  refine ⟨fun pp s σ H Q I h => ?_⟩
  obtain ⟨f, fd, F, hm, hk, hb⟩ := (c X.base).ex
  refine wpAny_Call_Name_kw (ld_glob I hg hm ?_ hdb)
  refine PySem.W.callWith_K (h₀ := X.base) I.ok.mod.kin hk (thn (ha.run pos pp s σ H _ I h) fun us s1 ⟨vs, H1, I1, r, q⟩ => ⟨I1.kIn, ?_⟩) hst hb0
  obtain ⟨f2, fd2, F2, hm2, hk2, hb2⟩ := (c (baseOf X H1 s1)).ex
  rw [hm] at hm2
  cases hm2
  exact run_fnW F2 (env0_up I1) hr hb2 hx I1 r (q _ (goodW I1 hfn))
end
end IL
namespace IL
open PySem PySem.Spec PyProof.Rows L2 LamX NdefX
/-! ### a lambda is made -/
section
variable {X : Cx} {pp : List (Addr × Obj)} {σ : L2.St} {H : Hp} {s : Shared}
theorem fnl_new {i : LI} {cl : List (Str × Addr)} {c : Addr} {t' : Nat} {pm ctv : Value} (I : Inv X pp σ H s) :
    Inv X pp σ (upd H s.heap.objs.size (FnL s.heap.objs.size i cl c)) { s with heap := s.heap.push (PySem.W.kla_obj "<lambda>" i.qual i.params i.body i.scope cl pm c ctv), toks := t' } := by
  have e : (s.heap.push (PySem.W.kla_obj "<lambda>" i.qual i.params i.body i.scope cl pm c ctv)).get? s.heap.objs.size = some (PySem.W.kla_obj "<lambda>" i.qual i.params i.body i.scope cl pm c ctv) := Heap.get?_push_size _ rfl
  exact I.laid (a := s.heap.objs.size) (fun b u z => Heap.get?_push_of_some _ z) (Nat.le_refl _) ⟨⟨_, _, pm, ctv, e⟩, ⟨_, e⟩, fun h1 h2 ⟨od, sl, p, q, z⟩ st => ⟨od, sl, p, q, st _ z⟩⟩
/-- what stands behind the making -/
structure Made (T : List (Addr × Str)) (i : LI) (cl : List (Str × Addr)) (H : Hp) (f c : Addr) (H1 : Hp) : Prop where
  ext : ExtN H H1
  non : ∀ b, H1 b = none → H b = none
  tab : Tabs T H1
  new : H f = none
  fn : H1 f = some (FnL f i cl c)
  code : H1 c = some (CodeO c i.qual)
theorem lam_track {T : List (Addr × Str)} {k P : Addr} {i : LI} {pos : Pos} {E : Value → Shared → Prop} {Q : Value → Shared → Prop} (I : Inv X pp σ H s) (TB : TabB X.base X.mg k P) (hcode : X.env.code = .ref k) (hq : X.env.qual ++ "<lambda>" = i.qual) (hm : (P, i.qual) ∈ T) (hu : ∀ p ∈ T, p.1 = P → p.2 = i.qual) (hT : Tabs T H) (hdef : defaultsOf i.params X.env = ([], []))
    (hfree : ∀ y ∈ i.scope.names, y.2 = .free → ∃ c, X.env.cells.lookup y.1 = some c) (h : ∀ (f c : Addr) (H1 : Hp) (s' : Shared), Inv X pp σ H1 s' → Made T i (cloFrom X.env.cells i.scope.names []) H f c H1 → Q (.ref f) s') :
    wpAny (model X.prog X.w) X.A (eval (.Lambda i.params i.body i.scope pos) X.env) Q E s := by
  obtain ⟨tb, hP, ht, hall⟩ := hT _ hm
  refine PySem.W.kla_eval hdef ?_
  rw [hq]
  have bP : s.heap.BuiltinsAt X.mg P := TB.bm.keeps I.bk
  have hP' : s.heap.get? P = some { cls := .none, data := .fields tb } := I.hok P _ hP
  cases hc : codeAmong pos tb.toList with
  | none =>
    refine PySem.W.kla_makeFunction (mg := X.mg) (c := k) (P := P) (ps := tb) (closure_ok hfree) I.ok.glob (I.mod.glob.keeps I.bk) hcode (TB.code.keeps I.bk) hP' ht hc TB.gP bP fun cn ctv hp tk hx hge hlt hrec htb => ?_
    obtain ⟨c2, oc, vs, tq, e2, hoc, hd, hv⟩ := hrec
    cases e2
    have nC : H cn = none := I.hok.fresh hge
    have eN : ∀ b o, H b = some o → (∀ ps, o ≠ .tbl ps) → upd (upd H P (.tbl (tb ++ #[rawInt pos.line, rawInt pos.col, .ref cn]))) cn (CodeO cn i.qual) b = some o := fun b o e n => by
      rw [upd_ne (ne_of_none e nC), upd_ne (fun z => n tb (Option.some.inj (e.symm.trans (by rw [z]; exact hP))))]; exact e
    have eL : (tb ++ #[rawInt pos.line, rawInt pos.col, .ref cn]).toList = tb.toList ++ [rawInt pos.line, rawInt pos.col, .ref cn] := by simp
    have T1 : Tabs T (upd (upd H P (.tbl (tb ++ #[rawInt pos.line, rawInt pos.col, .ref cn]))) cn (CodeO cn i.qual)) := fun p hp => by
      by_cases hb : p.1 = P
      · refine ⟨_, by rw [hb, upd_ne (ne_of_none hP nC), upd_same], by rw [eL]; exact PySem.TriplesOk_snoc _ _ _ _ ht, fun p' cv hcv => ?_⟩
        rw [hu p hp hb]
        rw [eL] at hcv
        rcases among_app _ ht hcv with z | z
        · obtain ⟨c0, e1, e2⟩ := hall p' cv z
          exact ⟨c0, e1, eN _ _ e2 codeO_ne⟩
        · exact ⟨cn, z, upd_same⟩
      · obtain ⟨qs, a1, a2, a3⟩ := hT p hp
        refine ⟨qs, by rw [upd_ne (ne_of_none a1 nC), upd_ne hb]; exact a1, a2, fun p' cv hcv => ?_⟩
        obtain ⟨c0, e1, e2⟩ := a3 p' cv hcv
        exact ⟨c0, e1, eN _ _ e2 codeO_ne⟩
    have I1 := inv_table (t' := tk) (q := i.qual) (more := #[rawInt pos.line, rawInt pos.col, .ref cn]) (h' := hp) I hP (fun b o hb e => hx b o hb e) htb hge ⟨oc, vs, tq, hoc, hd, hv⟩
    have nF := I1.hok.fresh (Nat.le_refl _)
    have I2 := fnl_new (i := i) (cl := cloFrom X.env.cells i.scope.names []) (c := cn) (t' := tk) (pm := (X.mg "__name__").getD .none) (ctv := ctv) I1
    refine h hp.objs.size cn _ _ I2 ⟨fun b o e n => ?_, fun b e => upd_none (upd_none (upd_none e)), T1.ext fun b o e => ?_, I.hok.fresh (Nat.le_trans hge (Nat.le_of_lt hlt)), upd_same, ?_⟩
    · have e1 := eN b o e n
      exact (upd_ne (ne_of_none e1 nF)).trans e1
    · exact (upd_ne (ne_of_none e nF)).trans e
    · exact (upd_ne (Nat.ne_of_lt hlt)).trans upd_same
  | some cv =>
    obtain ⟨cn, e, hco⟩ := hall pos cv hc
    subst e
    refine PySem.W.kla_makeFunctionHit (mg := X.mg) (c := k) (P := P) (ps := tb) (closure_ok hfree) I.ok.glob (I.mod.glob.keeps I.bk) hcode (TB.code.keeps I.bk) hP' ht hc bP fun ctv hp tk hx hsz => ?_
    have I1 : Inv X pp σ H { s with heap := hp, toks := tk } := I.kept hx
    have nF : H hp.objs.size = none := I1.hok.fresh (Nat.le_refl _)
    have I2 := fnl_new (i := i) (cl := cloFrom X.env.cells i.scope.names []) (c := cn) (t' := tk) (pm := (X.mg "__name__").getD .none) (ctv := ctv) I1
    exact h hp.objs.size cn _ _ I2 ⟨fun b o e n => (upd_ne (ne_of_none e nF)).trans e, fun b e => upd_none e, hT.ext fun b o e => (upd_ne (ne_of_none e nF)).trans e, nF, upd_same, (upd_ne (ne_of_none hco nF)).trans hco⟩
def tLamb (T : List (Addr × Str)) (i : LI) (cl : List (Str × Addr)) : TE := fun _ H Q => Tabs T H ∧ ∀ (f c : Addr) (H1 : Hp), Made T i cl H f c H1 → Q (.ref f) H1
theorem px_lam {T : List (Addr × Str)} {k P : Addr} {i : LI} {pos : Pos} (TB : TabB X.base X.mg k P) (hcode : X.env.code = .ref k) (hq : X.env.qual ++ "<lambda>" = i.qual) (hm : (P, i.qual) ∈ T) (hu : ∀ p ∈ T, p.1 = P → p.2 = i.qual)
    (hfree : ∀ y ∈ i.scope.names, y.2 = .free → X.env.scope.names.lookup y.1 = some .cell ∨ X.env.scope.names.lookup y.1 = some .free) (hdef : defaultsOf i.params X.env = ([], []) := by rfl) : PE X (.Lambda i.params i.body i.scope pos) (tLamb T i (cloFrom X.env.cells i.scope.names [])) :=
  ⟨fun pp s σ H Q I h => lam_track I TB hcode hq hm hu h.1 hdef (fun y hy e => (hfree y hy e).elim (fun z => I.ok.has _ (.inl z)) fun z => I.ok.has _ (.inr z)) fun f c H1 s' I1 M => ⟨.ref f, H1, I1, rfl, h.2 f c H1 M⟩⟩
end
end IL
namespace IL
open PySem PySem.Spec PyProof.Rows L2 LamX NdefX
/-! ### a lambda is run -/
def LI.nf (i : LI) (cl : List (Str × Addr)) (c : Addr) : NF := ⟨"<lambda>", i.qual, i.params, [], i.scope, cl, c⟩
theorem fnL_at {P : Program} {w : World} {H : Hp} {h : Heap} {f c : Addr} {i : LI} {cl : List (Str × Addr)} (hok : HOk P w H h) (e : H f = some (FnL f i cl c)) : ∃ (od : Option Addr) (sl : Array (Option Value)) (pm ctv : Value), h.get? f = some (⟨.type "function", od, .func (i.fd cl c pm ctv), sl⟩ : Obj) := (hok f _ e).1
structure LOk (P : Program) (w : World) (K : PySem.W.Frag) (mg : Str → Option Value) (base : Heap) (CX : CXT) (k : Nat) (i : LI) (ps : List Str) (sp : List (Option V) → Sp) : Prop where
  len : ∀ ws vs H Q E, sp ws vs H Q E → vs.length = ps.length
  run : ∀ (A : Around) (outer : List PySem.Env) (s : Shared) (H : Hp) (us : List Value) (vs : List V) (ws : List (Option V)) (Q : VK) (E : XK) (f c : Addr) (cl : List (Str × Addr)), Room k A → Env0 P w K mg base A outer s H → H f = some (FnL f i cl c) → H c = some (CodeO c i.qual) →
    CellsAt cl i.fr ws s.heap H → Vals vs us → sp ws vs H Q E → codeAny (model P w) A (.call (.ref f) ⟨us, []⟩) (CR CX outer P w H s Q E) s
theorem lok_of {CX : CXT} {P : Program} {w : World} {K : PySem.W.Frag} {mg : Str → Option Value} {base : Heap} {N ps : List Str} {i : LI} {k : Nat} {sp : List (Option V) → Sp} (S : NScope N ps i.fr i.scope) (hb : ∀ (cl : List (Str × Addr)) (c : Addr) (pm ctv : Value) (us : List Value), us.length = ps.length → bindArgs (i.fd cl c pm ctv) ⟨us, []⟩ = pure (ps.zip us))
    (len : ∀ ws vs H Q E, sp ws vs H Q E → vs.length = ps.length)
    (hbody : ∀ (f c : Addr) (cl : List (Str × Addr)) (A : Around) (outer : List PySem.Env) (s : Shared) (H : Hp) (vs : List V) (ws : List (Option V)) (Q : VK) (E : XK), Room k (A.deeper (envF (i.nf cl c) f s.heap.objs.size)) → ws.length = i.fr.length → sp ws vs H Q E →
      ∃ t, PE (ncx CX P w K mg base N (i.nf cl c) f A outer s H E) i.body t ∧ t (startF N vs ws) H Q) : LOk P w K mg base CX (k + 1) i ps sp := by
  refine ⟨len, fun A outer s H us vs ws Q E f c cl hr e0 hf hc C r hsp => ?_⟩
  have hl := len _ _ _ _ _ hsp
  have lim : s.heap.NoLimit := e0.mod.nolimit.keeps fun b o e => (e0.bs b o e).1
  obtain ⟨od, sl, pm, ctv, ho⟩ := fnL_at e0.hok hf
  refine PySem.W.kla_callFunE hr.depth ho rfl S.co S.gen rfl (codeO_at e0.hok hc) ?_
  rw [hb cl c pm ctv us (by rw [← r.length]; exact hl)]
  refine wpAny_pure (wpAny_newFunctionEnv S.nocell (fun ⟨n, _⟩ hy => S.par n (List.of_mem_zip hy).1) (fun h1 hns hsb => ⟨lim.fresh _ hsb, ?_⟩) S.kind)
  show codeAny _ _ (.expr i.body (envF (i.nf cl c) f s.heap.objs.size)) _ _
  have kp : ∀ b o, s.heap.get? b = some o → h1.get? b = some o := fun b o e => hsb.extBut b o (Nat.ne_of_lt (Heap.lt_size e)) (Heap.get?_push_of_some _ e)
  obtain ⟨t, ht, hq⟩ := hbody f c cl A outer s H vs ws Q E (hr.deeper _) C.len hsp
  have J : Inv (ncx CX P w K mg base N (i.nf cl c) f A outer s H E) [] (startF N vs ws) H { s with heap := h1, toks := s.toks + (ps.zip us).length } := inv_startN (F := i.nf cl c) S hr.hd e0 hl r C hns kp
  refine PySem.W.kla_codeExpr (wpAny_mono (ht.run [] _ _ H Q J hq) (fun v s' hs => ?_) fun e s' hs => hs)
  obtain ⟨w', H', J', rv, q⟩ := hs
  exact ⟨w', H', J'.os, J'.bare, J'.base, J'.hok, rv, q⟩
/-! what leaves a lambda's body -/
section
variable {P : Program} {w : World} {K : PySem.W.Frag} {mg : Str → Option Value} {base : Heap} {N : List Str} {F : NF} {f : Addr} {A : Around} {outer : List PySem.Env} {s : Shared} {H : Hp} {E : XK}
theorem takesL : L2N.Takes (ncx (CXN P w) P w K mg base N F f A outer s H E) (fun cls d _ H => E cls d H) := L2N.takes_of rfl rfl rfl rfl
theorem passLm : Passes (CXN P w) (ncx (CXN P w) P w K mg base N F f A outer s H E) E := L2N.passes_call takesL fun _ _ _ _ h => h
end
/-- x(..), x a local that holds a lambda -/
def tCallV (base : Heap) (k : Nat) (I : LI → (List (Option V) → Sp) → Prop) (WW : WX) (tA : TA) : TE := fun σ H Q => ∃ (i : LI) (sp : List (Option V) → Sp) (f c : Addr) (cl : List (Str × Addr)) (ws : List (Option V)), I i sp ∧ σ[k]? = some (some (.ref f)) ∧ H f = some (FnL f i cl c) ∧ CellsB base cl i.fr ws ∧
  tA σ H fun vs H1 => H1 f = some (FnL f i cl c) ∧ H1 c = some (CodeO c i.qual) ∧ sp ws vs H1 Q (WE WW σ)
section
variable {X : Cx} {CX : CXT} {j k : Nat} {x : Str} {p pos : Pos} {e : Expr} {es : List Expr} {t : TA} {WW : WX} {LT : LI → (List (Option V) → Sp) → Prop}
theorem fnL_fn {pp : List (Addr × Obj)} {σ : L2.St} {H : Hp} {s : Shared} {f c : Addr} {i : LI} {cl : List (Str × Addr)} (I : Inv X pp σ H s) (e : H f = some (FnL f i cl c)) : PySem.W.FnAt f s.heap := by
  obtain ⟨od, sl, pm, ctv, ho⟩ := fnL_at I.hok e
  exact ⟨_, od, _, sl, ho⟩
theorem run_V {pp : List (Addr × Obj)} {σ : L2.St} {H : Hp} {s : Shared} {Q : VK} {i : LI} {ps : List Str} {sp : List (Option V) → Sp} {E : XK} {f c : Addr} {cl : List (Str × Addr)} {ws : List (Option V)} {us : List Value} {vs : List V} (L : LOk X.prog X.w X.K X.mg X.base CX k i ps sp) (hr : Room k X.A) (hx : PassesAt CX X σ E) (I : Inv X pp σ H s)
    (hf : H f = some (FnL f i cl c)) (hc : H c = some (CodeO c i.qual)) (C : CellsAt cl i.fr ws s.heap H) (r : Vals vs us) (q : sp ws vs H Q E) : wpAny (model X.prog X.w) X.A (call (.ref f) us) (EP X pp σ Q) X.xe s := by
  refine wpAny_call (codeAny_mono (L.run X.A X.stack s H us vs ws Q E f c cl hr I.env0 hf hc C r q) fun r s' hq => ?_)
  cases r with
  | error e => exact hx pp H s e s' I hq
  | ok fl =>
    cases fl with
    | ret u => exact I.after hq
    | next => exact False.elim hq
    | brk => exact False.elim hq
    | cont => exact False.elim hq
theorem px_callV (bs : Heap) (hB : X.base = bs) (L : ∀ i sp, LT i sp → ∃ ps m, m ≤ k ∧ LOk X.prog X.w X.K X.mg X.base (CXN X.prog X.w) m i ps sp) (hr : Room k X.A) (hN : X.N[j]? = some x) (hv : Vis X.env.scope x) (tk : L2N.Takes X WW) (ha : PA X (e :: es) t)
    (hdb : (x == ("__debug__" : Str)) = false := by decide)
    (hcd : (x == ("__classdict__" : Str)) = false := by decide) (hst : starEach (e :: es) X.env = (false, eval e X.env) :: starEach es X.env := by rfl)
    (hb0 : (backTo pos (starEach es X.env)).any (·.1) = false := by rfl) : PE X (.Call (.Name x p) (e :: es) [] pos) (tCallV bs j LT WW t) := by
  subst hB
  refine ⟨fun pp s σ H Q I h => ?_⟩
  obtain ⟨i, sp, f, c, cl, ws, hi, hs, hf, C, ht⟩ := h
  obtain ⟨ps, m, hm, LL⟩ := L i sp hi
  refine wpAny_Call_Name_kw (thn ((pe_var (pos := p) hN hv hdb hcd).run pp s σ H (fun v H1 => v = .ref f ∧ H1 = H) I ⟨.ref f, hs, rfl, rfl⟩) fun u s1 ⟨v, H1, I1, r1, ev, eH⟩ => ?_)
  subst ev
  rw [eH] at I1
  obtain rfl : u = Value.ref f := r1
  refine PySem.W.callWith_F (first := []) (fnL_fn I1 hf) (thn (ha.run pos pp s1 σ H _ I1 ht) fun us s2 ⟨vs, H2, I2, r, h1, h2, q⟩ => ⟨fnL_fn I2 h1, ?_⟩) hst hb0
  exact run_V LL (hr.mono hm) (L2N.passAt tk σ) I2 h1 h2 (C.at I2) r q
theorem px_callV0 (bs : Heap) (hB : X.base = bs) (L : ∀ i sp, LT i sp → ∃ ps m, m ≤ k ∧ LOk X.prog X.w X.K X.mg X.base (CXN X.prog X.w) m i ps sp) (hr : Room k X.A) (hN : X.N[j]? = some x) (hv : Vis X.env.scope x) (tk : L2N.Takes X WW)
    (hdb : (x == ("__debug__" : Str)) = false := by decide)
    (hcd : (x == ("__classdict__" : Str)) = false := by decide) : PE X (.Call (.Name x p) [] [] pos) (tCallV bs j LT WW tNil) := by
  subst hB
  refine ⟨fun pp s σ H Q I h => ?_⟩
  obtain ⟨i, sp, f, c, cl, ws, hi, hs, hf, C, h1, h2, q⟩ := h
  obtain ⟨ps, m, hm, LL⟩ := L i sp hi
  refine wpAny_Call_Name_kw (thn ((pe_var (pos := p) hN hv hdb hcd).run pp s σ H (fun v H1 => v = .ref f ∧ H1 = H) I ⟨.ref f, hs, rfl, rfl⟩) fun u s1 ⟨v, H1, I1, r1, ev, eH⟩ => ?_)
  subst ev
  rw [eH] at I1
  obtain rfl : u = Value.ref f := r1
  refine PySem.W.callWith_F0 (first := []) (fnL_fn I1 hf) ?_
  exact run_V LL (hr.mono hm) (L2N.passAt tk σ) I1 h1 h2 (C.at I1) .nil q
end
end IL

end
section
set_option Elab.async false
set_option linter.all false
set_option maxRecDepth 100000
namespace IL
open PySem L2
/-! ### a def run on what its arguments reach alone -/
section
variable {α β : Type}
/-- a list laid out -/
def fL : List α → (List α → β) → β
  | [], k => k []
  | x :: xs, k => fL xs fun ys => k (x :: ys)
theorem fL_eq : ∀ (xs : List α) (k : List α → β), fL xs k = k xs
  | [], _ => rfl
  | x :: xs, k => by rw [fL, fL_eq xs]
def setF : List α → Nat → α → (List α → β) → β
  | [], _, _, k => k []
  | x :: xs, 0, o, k => k (o :: xs)
  | x :: xs, n + 1, o, k => setF xs n o fun ys => k (x :: ys)
theorem setF_eq : ∀ (xs : List α) (n : Nat) (o : α) (k : List α → β), setF xs n o k = k (xs.set n o)
  | [], _, _, _ => rfl
  | x :: xs, 0, o, k => rfl
  | x :: xs, n + 1, o, k => by rw [setF, setF_eq xs]; rfl
end
def seenO : Ob → Bool
  | .hid => false
  | _ => true
def idx : List Nat → Nat → Option Nat
  | [], _ => none
  | m :: ms, n => if Nat.beq m n = true then some 0 else match idx ms n with
    | some k => some (k + 1)
    | none => none
def hasN : List Nat → Nat → Bool
  | [], _ => false
  | m :: ms, n => Nat.beq m n || hasN ms n
def ndB : List Nat → Bool
  | [] => true
  | m :: ms => !hasN ms m && ndB ms
def refV : Va → List Nat
  | .ref n => [n]
  | _ => []
def refVs : List Va → List Nat
  | [] => []
  | x :: xs => refV x ++ refVs xs
def refO : Ob → List Nat
  | .lst xs => refVs xs
  | .tup xs => refVs xs
  | .dic es => refVs (es.map (·.2))
  | .obj _ fs => refVs (fs.map (·.2))
  | _ => []
def reach (S : Sto) : Nat → List Nat → List Nat → List Nat
  | 0, _, seen => seen
  | _ + 1, [], seen => seen
  | k + 1, n :: r, seen => if hasN seen n = true then reach S k r seen else match S[n]? with
    | some o => reach S k (refO o ++ r) (seen ++ [n])
    | none => reach S k r seen
def mapVs (f : Va → Option Va) : List Va → Option (List Va)
  | [] => some []
  | x :: xs => match f x, mapVs f xs with
    | some y, some ys => some (y :: ys)
    | _, _ => none
def mapD {κ : Type} (f : Va → Option Va) : List (κ × Va) → Option (List (κ × Va))
  | [] => some []
  | e :: es => match f e.2, mapD f es with
    | some y, some ys => some ((e.1, y) :: ys)
    | _, _ => none
def mapO (f : Va → Option Va) : Ob → Option Ob
  | .lst xs => (mapVs f xs).map .lst
  | .tup xs => (mapVs f xs).map .tup
  | .dic es => (mapD f es).map .dic
  | .obj c fs => (mapD f fs).map (.obj c)
  | _ => none
def mapAt (f : Va → Option Va) (S : Sto) : List Nat → Option Sto
  | [] => some []
  | n :: ns => match S[n]? with
    | some o => match mapO f o, mapAt f S ns with
      | some o', some os => some (o' :: os)
      | _, _ => none
    | none => none
def dnV (m : List Nat) : Va → Option Va
  | .ref n => match idx m n with
    | some k => some (.ref k)
    | none => none
  | v => some v
def upV (m kp : List Nat) (l : Nat) : Va → Option Va
  | .ref n => match m[n]? with
    | some k => some (.ref k)
    | none => match idx kp n with
      | some j => some (.ref (l + j))
      | none => none
  | v => some v
def upto : Nat → Nat → List Nat
  | _, 0 => []
  | k, n + 1 => k :: upto (k + 1) n
def fromN (a : Nat) : List Nat → List Nat
  | [] => []
  | n :: ns => if Nat.ble a n = true then n :: fromN a ns else fromN a ns
def wb : Sto → List Nat → Sto → Sto
  | S, n :: m, o :: os => setF S n o fun S' => wb S' m os
  | S, _, _ => S
/-- what a run leaves, put back -/
def gcUp (S : Sto) (m : List Nat) (vs : List Va) (S3 : Sto) : Option (List Va × Sto) :=
  let kp := fromN m.length (reach S3 100000 (upto 0 m.length ++ refVs vs) [])
  if ndB kp = true then match mapVs (upV m kp S.length) vs, mapAt (upV m kp S.length) S3 (upto 0 m.length), mapAt (upV m kp S.length) S3 kp with
    | some ws, some os, some ns => fL (wb S m os ++ ns) fun S4 => some (ws, S4)
    | _, _, _ => none
  else none
def gcF (f : Fn) : Fn := fun xs S =>
  let m := reach S 100000 (refVs xs) []
  if ndB m = true ∧ S.all seenO = true then match mapVs (dnV m) xs, mapAt (dnV m) S m with
    | some xs', some S' => match f xs' S' with
      | .ok v S3 => match gcUp S m [v] S3 with
        | some ([v'], S4) => .ok v' S4
        | _ => .no
      | .ex c S3 => match gcUp S m [] S3 with
        | some (_, S4) => .ex c S4
        | _ => .no
      | .no => .no
    | _, _ => .no
  else .no
end IL

end
section
set_option Elab.async false
set_option linter.all false
namespace IL
open PySem L2
/-! ### lambdas: the plain machine -/
def slotR (ρ : Env) (j : Nat) : Option Va := match ρ[j]? with
  | some (some x) => some x
  | _ => none
/-- a lambda made in this frame, with what its names hold now; caps: where they stand -/
def closeO (caps : List (Nat × List Nat)) (ρ : Env) : Ob → Ob
  | .clo i none => match caps.lookup i with
    | some js => .clo i (some (js.map (slotR ρ)))
    | none => .hid
  | o => o
def hideC : Ob → Ob
  | .clo _ _ => .hid
  | o => o
def openO (S1 : Sto) (n : Nat) (o : Ob) : Ob := match S1[n]? with
  | some (.clo i v) => .clo i v
  | _ => hideC o
def openS (S1 S3 : Sto) : Sto := S3.mapIdx (openO S1)
def iLam (i : Nat) : IE := fun _ S => .ok (.ref S.length) (S ++ [.clo i none])
/-- one that captures nothing -/
def iLam0 (i : Nat) : IE := fun _ S => .ok (.ref S.length) (S ++ [.clo i (some [])])
/-- a def called from a frame that lends its cells -/
def iCallW (caps : List (Nat × List Nat)) (f : Fn) (a : IA) : IE := fun ρ S => (a ρ S).bind fun xs S1 => match f xs (S1.map (closeO caps ρ)) with
  | .ok v S3 => .ok v (openS S1 S3)
  | .ex c S3 => .ex c (openS S1 S3)
  | .no => .no
abbrev LFn := List (Option Va) → Fn
/-- a local that holds a lambda is called -/
def iCallV (k : Nat) (tab : List (Nat × LFn)) (a : IA) : IE := fun ρ S => match ρ[k]? with
  | some (some (.ref n)) => match S[n]? with
    | some (.clo i (some cs)) => match tab.lookup i with
      | some lf => (a ρ S).bind (lf cs)
      | none => .no
    | _ => .no
  | _ => .no
/-- a comprehension whose block is lent the cells -/
def iLcW (caps : List (Nat × List Nat)) (ii : II) (tg : IG) (tt : IT) (ie : IE) (vs : List Nat) : IE := fun ρ S => (ii ρ S).bind fun I S1 => if I.items.length ≤ 100000 then
  (lcL I.chk tg tt ie (wipeE ρ vs) I.items (S1.map (closeO caps ρ))).bindN fun ys S2 => .ok (.ref (openS S1 S2).length) (openS S1 S2 ++ [.lst ys]) else .no
/-- at the end of the frame -/
def hideO : Ob → Ob
  | .clo _ none => .hid
  | o => o
def R.mapS {α : Type} (r : R α) (f : Sto → Sto) : R α := match r with
  | .ok a S => .ok a (f S)
  | .ex c S => .ex c (f S)
  | .no => .no
def mkFnW (p n : Nat) (body : IS) : Fn := fun xs S => (mkFn p n body xs S).mapS (List.map hideO)
/-- a lambda's body: parameters, captured names, the comprehensions' names -/
def mkLam (p c n : Nat) (e : IE) : LFn := fun cs xs S => if xs.length = p ∧ cs.length = c then e (xs.map some ++ (cs ++ List.replicate (n - xs.length - cs.length) none)) S else .no
/-- a def that is not called any more -/
def noFn : Fn := fun _ _ => .no
/-- a def called with numbers alone: in a store of its own -/
def flatV : Va → Bool
  | .non => true | .bl _ => true | .int _ => true | .str _ => true | .ty _ => true | .gl _ => true | _ => false
def toBig (far : Int) : Va → Va
  | .int i => if i = far then .big false else .int i
  | v => v
def iCallE (far : Int) (f : Fn) (a : IA) : IE := fun ρ S => (a ρ S).bind fun xs S1 => if xs.all flatV = true ∧ S1.all seenO = true then match f (xs.map (toBig far)) [] with
  | .ok v _ => if flatV v = true then .ok v S1 else .no
  | _ => .no
  else .no
theorem callE_run {far : Int} {f : Fn} {a : IA} {ρ : Env} {S : Sto} {xs : List Va} {v : Va} (h1 : a ρ S = .ok xs S) (h2 : xs.all flatV = true) (h3 : S.all seenO = true) (h4 : ∃ S', f (xs.map (toBig far)) [] = .ok v S') (h5 : flatV v = true) : iCallE far f a ρ S = .ok v S := by
  obtain ⟨S', h4⟩ := h4
  unfold iCallE
  rw [h1, R.bind_ok, if_pos ⟨h2, h3⟩, h4]
  dsimp only
  rw [if_pos h5]
/-! comparisons with a very great number -/
def ltB : Va → Va → Option Bool
  | .int i, .int j => some (decide (i < j))
  | .int i, .big false => if i < 10 ^ 30 then some true else none
  | .big false, .int j => if j < 10 ^ 30 then some false else none
  | .big true, .int j => if -10 ^ 30 < j then some true else none
  | .int i, .big true => if -10 ^ 30 < i then some false else none
  | _, _ => none
def fLtB (x y : Va) (S : Sto) : R Va := match ltB x y with
  | some b => .ok (.bl b) S
  | none => .no
def fGtB (x y : Va) (S : Sto) : R Va := match ltB y x with
  | some b => .ok (.bl b) S
  | none => .no
def fLeB (x y : Va) (S : Sto) : R Va := match ltB y x with
  | some b => .ok (.bl (!b)) S
  | none => .no
def fGeB (x y : Va) (S : Sto) : R Va := match ltB x y with
  | some b => .ok (.bl (!b)) S
  | none => .no
def fNegB : Va → Sto → R Va
  | .int i, S => .ok (.int (-i)) S
  | .big b, S => .ok (.big (!b)) S
  | _, _ => .no
def fIsiB : List Va → Sto → R Va
  | [.big _, .ty u], S => match kitB "int" u with
    | some b => .ok (.bl b) S
    | none => .no
  | xs, S => fIsi xs S
/-- a law holds on a script, however it is given -/
def LawT (f : List Int → Fn) (ns : List Int) : Prop := (∃ S', f ns [.scr ns] [] = .ok (.bl true) S') ∧ ∃ S', f ns [.ref 0] [.lst (ns.map .int)] = .ok (.bl true) S'
end IL

end
section
set_option Elab.async false
set_option linter.all false
set_option maxRecDepth 100000
set_option maxHeartbeats 4000000
namespace IL
open PySem PySem.Spec PyProof.Rows L2 LamX NdefX
def Gm.b (g : Gm) (base : Heap) : Gm := { g with own := none, cb := CellsB base }
def Gm.o (g : Gm) (cells : List (Str × Addr)) : Gm := { g with own := some cells }
section
variable {g g' : Gm} {ι ι' : List Addr} {S : Sto} {H H' : Hp} {ρ : Env} {σ : L2.St} {W : WH} {E : XK}
/-- two letters that read values alike -/
structure Alike (g g' : Gm) : Prop where
  γ : g'.γ = g.γ
  K : g'.K = g.K
  a0 : g'.a0 = g.a0
  ns : g'.ns = g.ns
  hs : g'.hs = g.hs
  ea : g'.ea = g.ea
  T : g'.T = g.T
  lam : g'.lam = g.lam
theorem Alike.symm (a : Alike g g') : Alike g' g := ⟨a.γ.symm, a.K.symm, a.a0.symm, a.ns.symm, a.hs.symm, a.ea.symm, a.T.symm, a.lam.symm⟩
theorem VR.al (a : Alike g g') {x : Va} {v : V} (h : VR g ι x v) : VR g' ι x v := by
  cases x with
  | gl n => show v = .ref (g'.γ n); rw [a.γ]; exact h
  | scr ns => show v = .ref g'.a0 ∧ ns = g'.ns ∧ g'.hs; rw [a.a0, a.ns, a.hs]; exact h
  | exc c => obtain ⟨b, h1, h2⟩ := h; exact ⟨b, by rw [a.ea]; exact h1, h2⟩
  | big n => show v = .int (farB n g'.ns); rw [a.ns]; exact h
  | _ => exact h
theorem VRs.al (a : Alike g g') {x : List Va} {v : List V} (h : VRs g ι x v) : VRs g' ι x v := Paired.imp (fun _ _ => VR.al a) h
theorem ER.al (a : Alike g g') (e : ER g ι ρ σ) : ER g' ι ρ σ := ⟨e.len, fun i x q => let ⟨v, h1, h2⟩ := e.at_ i x q; ⟨v, h1, h2.al a⟩⟩
theorem CapR.al (a : Alike g g') {xs : List (Option Va)} {ws : List (Option V)} (e : CapR g ι xs ws) : CapR g' ι xs ws := ⟨e.len, fun i x q => let ⟨v, h1, h2⟩ := e.at_ i x q; ⟨v, h1, h2.al a⟩⟩
def isClo : Ob → Bool
  | .clo _ _ => true
  | _ => false
theorem ObR.al (a : Alike g g') {p : Addr} {o : Ob} (hc : isClo o = false) (h : ObR g ι H p o) : ObR g' ι H p o := by
  cases o with
  | lst xs => obtain ⟨vs, h1, h2⟩ := h; exact ⟨vs, h1, h2.al a⟩
  | tup xs => obtain ⟨vs, h1, h2⟩ := h; exact ⟨vs, h1, h2.al a⟩
  | dic es => obtain ⟨vs, h1, h2⟩ := h; exact ⟨vs, h1, Paired.imp (fun _ _ q => ⟨q.1, q.2.al a⟩) h2⟩
  | obj c fs => obtain ⟨dx, vs, h1, h2⟩ := h; exact ⟨dx, vs, by rw [a.γ]; exact h1, Paired.imp (fun _ _ q => ⟨q.1, q.2.al a⟩) h2⟩
  | hid => exact h
  | clo i vs => cases hc
theorem Sim.al (a : Alike g g') (s : Sim g ι S H) {S' : Sto} (hl : S'.length = S.length) (ho : ∀ (n : Nat) (o o' : Ob) (p : Addr), S[n]? = some o → S'[n]? = some o' → ι[n]? = some p → ObR g ι H p o → ObR g' ι H p o') : Sim g' ι S' H := by
  refine ⟨s.nd, by rw [hl]; exact s.len, fun n o' p e1 e2 => ?_, fun H1 f => ?_, by rw [a.T]; exact s.tb⟩
  · have hn : n < S.length := by rw [← hl]; exact (List.getElem?_eq_some_iff.mp e1).1
    exact ho n S[n] o' p (by simp [hn]) e1 e2 (s.ob n S[n] p (by simp [hn]) e2)
  · rw [a.K, a.a0, a.ns, a.hs]; exact s.sc H1 f
theorem al_b (base : Heap) : Alike g (g.b base) := ⟨rfl, rfl, rfl, rfl, rfl, rfl, rfl, rfl⟩
theorem al_o (cells : List (Str × Addr)) : Alike g (g.o cells) := ⟨rfl, rfl, rfl, rfl, rfl, rfl, rfl, rfl⟩
theorem Alike.trans {g2 : Gm} (a : Alike g g') (b : Alike g' g2) : Alike g g2 := ⟨b.γ.trans a.γ, b.K.trans a.K, b.a0.trans a.a0, b.ns.trans a.ns, b.hs.trans a.hs, b.ea.trans a.ea, b.T.trans a.T, b.lam.trans a.lam⟩
theorem slot_vr (e : ER g ι ρ σ) (js : List Nat) : CapR g ι (js.map (slotR ρ)) (js.map (slotAt σ)) := by
  refine ⟨by simp, fun i x q => ?_⟩
  rw [List.getElem?_map] at q
  cases ej : js[i]? with
  | none => rw [ej] at q; cases q
  | some j =>
    rw [ej] at q
    have q' : slotR ρ j = some x := Option.some.inj q
    unfold slotR at q'
    split at q'
    · rename_i y hy
      cases q'
      obtain ⟨v, h1, h2⟩ := e.at_ j _ hy
      exact ⟨v, by rw [List.getElem?_map, ej]; exact congrArg some (slotAt_of h1), h2⟩
    · cases q'
/-- the store lent to a callee -/
theorem Sim.close {base base' : Heap} {cells : List (Str × Addr)} {caps : List (Nat × List Nat)} {X : Cx} (s : Sim ((g.b base).o cells) ι S H) (e : ER ((g.b base).o cells) ι ρ σ) (hX : X.env.cells = cells) (hB : X.base = base) (hc : ∀ i js, caps.lookup i = some js → Stat X (g.lam i).scope (g.lam i).fr js) (G : GoodW X σ base') : Sim (g.b base') ι (S.map (closeO caps ρ)) H := by
  have al : Alike ((g.b base).o cells) (g.b base') := ⟨rfl, rfl, rfl, rfl, rfl, rfl, rfl, rfl⟩
  refine s.al al (by simp) fun n o o' p e1 e2 e3 h => ?_
  rw [List.getElem?_map, e1] at e2
  have e4 : closeO caps ρ o = o' := Option.some.inj e2
  subst e4
  cases o with
  | clo i vs =>
    obtain ⟨c, cl, h1, h2, h3⟩ := h
    cases vs with
    | none =>
      obtain ⟨cs, h4, h5⟩ := h3
      have h6 : cells = cs := Option.some.inj h4
      subst h6
      cases hj : caps.lookup i with
      | some js =>
        rw [show closeO caps ρ (.clo i none) = .clo i (some (js.map (slotR ρ))) by simp only [closeO, hj]]
        refine ⟨c, cl, h1, h2, _, (slot_vr e js).al al, ?_⟩
        have := G.own _ _ _ (hc i js hj)
        rw [hX] at this
        rw [h5]; exact this
      | none =>
        rw [show closeO caps ρ (.clo i none) = .hid by simp only [closeO, hj]]
        show H p ≠ none
        rw [h1]; intro z; cases z
    | some xs =>
      obtain ⟨ws, h4, h5⟩ := h3
      exact ⟨c, cl, h1, h2, ws, h4.al al, G.up _ _ _ (by rw [hB]; exact h5)⟩
  | _ => exact h.al al rfl
/-- .. and taken back -/
theorem Sim.opened' {ι2 : List Addr} {S3 : Sto} {H2 : Hp} (al : Alike g' g) (s1 : Sim g ι S H) (le : Le ι ι2) (fz : Frz H H2) (s2 : Sim g' ι2 S3 H2) : Sim g ι2 (openS S S3) H2 := by
  refine s2.al al (by unfold openS; simp) fun n o o' p e1 e2 e3 h => ?_
  unfold openS at e2
  rw [List.getElem?_mapIdx, e1] at e2
  have e4 : openO S n o = o' := Option.some.inj e2
  subst e4
  unfold openO
  split
  · rename_i i v hS
    obtain ⟨a, ha, c, cl, h1, h2, h3⟩ := s1.at_ hS
    rw [le n a ha] at e3
    cases e3
    exact ⟨c, cl, fz.ex _ _ h1, fz.ex _ _ h2, h3.mono le⟩
  · cases o with
    | clo i v =>
      obtain ⟨c, cl, h1, h2, h3⟩ := h
      show H2 p ≠ none
      rw [h1]; intro z; cases z
    | _ => exact h.al al rfl
theorem Sim.opened {ι2 : List Addr} {S3 : Sto} {H2 : Hp} (al : Alike g' g) (s1 : Sim g ι S H) (l : Ext ι H ι2 H2) (s2 : Sim g' ι2 S3 H2) : Sim g ι2 (openS S S3) H2 := s1.opened' al l.le l.fz s2
theorem sx_calW {base : Heap} {cells : List (Str × Addr)} {caps : List (Nat × List Nat)} {X : Cx} {f : Fn} {tA : TA} {iA : IA} (hX : X.env.cells = cells) (hB : X.base = base) (hc : ∀ i js, caps.lookup i = some js → Stat X (g.lam i).scope (g.lam i).fr js) (ha : SdA ((g.b base).o cells) (WD ((g.b base).o cells) E) tA iA) :
    SdE ((g.b base).o cells) (WD ((g.b base).o cells) E) (tCallW (fun b => iSpX (g.b b) f) (GoodW X) E tA) (iCallW caps f iA) := fun ι ρ S σ H Q s e h =>
  ha ι ρ S σ H _ s e (h.then fun xs ι1 S1 H1 l s1 h1 vs r base' G => by
    have al : Alike ((g.b base).o cells) (g.b base') := ⟨rfl, rfl, rfl, rfl, rfl, rfl, rfl, rfl⟩
    refine ⟨ι1, S1.map (closeO caps ρ), xs, s1.close (e.mono l.le) hX hB hc G, r.al al, ?_⟩
    cases hf : f xs (S1.map (closeO caps ρ)) with
    | ok v S3 =>
      rw [hf] at h1
      exact fun ι2 H2 l2 s2 u vu => h1 ι2 H2 l2 (Sim.opened al.symm s1 l2 s2) u (vu.al al.symm)
    | ex c S3 =>
      rw [hf] at h1
      exact fun ι2 H2 l2 s2 => h1 ι2 H2 l2 (Sim.opened al.symm s1 l2 s2)
    | no => rw [hf] at h1; exact h1.elim)
theorem made_sim {T : List (Addr × Str)} {i : LI} {k : Nat} {cl : List (Str × Addr)} {f c : Addr} {H1 : Hp} {v : Option (List (Option Va))} (hT : g.T = T) (hl : g.lam k = i) (s : Sim g ι S H) (M : Made T i cl H f c H1) (hr : CloR g (ι ++ [f]) k cl v) : Ext ι H (ι ++ [f]) H1 ∧ Sim g (ι ++ [f]) (S ++ [.clo k v]) H1 := by
  subst hT hl
  have nf : f ∉ ι := s.fresh M.new
  have fz : Frz H H1 := ⟨fun b o u hb => M.ext _ _ hb (fun ps z => by cases z), fun b φ hb => M.ext _ _ hb (fun ps z => by cases z)⟩
  have same : ∀ a o, H a = some o → (∀ ps, o ≠ .tbl ps) → H1 a = H a := fun a o ha hn => by rw [ha]; exact M.ext _ _ ha hn
  have hE : Ext ι H (ι ++ [f]) H1 := ⟨Le.snoc ι f, fun a h1 h2 h3 => by
    have haf : a ≠ f := fun z => h2 (z ▸ M.new)
    refine ⟨fun z => (List.mem_append.mp z).elim h1 fun z => haf (List.mem_singleton.mp z), ?_⟩
    cases ha : H a with
    | none => exact absurd ha h2
    | some o => exact (M.ext _ _ ha fun ps z => h3 ps (by rw [ha, z])), fz⟩
  refine ⟨hE, ?_⟩
  refine ⟨?_, by simp [s.len], fun n o p e1 e2 => ?_, fun H2 f2 => s.sc H2 (fz.trans f2), M.tab⟩
  · rw [List.nodup_append]
    exact ⟨s.nd, by simp, fun a ha b hb => by rw [List.mem_singleton] at hb; rintro rfl; exact nf (hb ▸ ha)⟩
  · by_cases hn : n < S.length
    · rw [List.getElem?_append_left hn] at e1
      rw [List.getElem?_append_left (by rw [s.len]; exact hn)] at e2
      have ho := (s.ob n o p e1 e2).mono (Le.snoc ι f)
      have h1 := ho
      cases o with
      | hid =>
        show H1 p ≠ none
        exact fun z => ho (M.non p z)
      | lst xs => obtain ⟨vs, q, _⟩ := h1; exact ho.heap (same p _ q fun ps z => by cases z) fz.ex
      | tup xs => obtain ⟨vs, q, _⟩ := h1; exact ho.heap (same p _ q fun ps z => by cases z) fz.ex
      | dic es => obtain ⟨vs, q, _⟩ := h1; exact ho.heap (same p _ q fun ps z => by cases z) fz.ex
      | obj c fs => obtain ⟨dx, vs, q, _⟩ := h1; exact ho.heap (same p _ q fun ps z => by cases z) fz.ex
      | clo j vs => obtain ⟨c', cl, q, _⟩ := h1; exact ho.heap (same p _ q fun ps z => by cases z) fz.ex
    · have hl : n = S.length := by
        have := (List.getElem?_eq_some_iff.mp e1).1
        simp at this; omega
      subst hl
      rw [List.getElem?_concat_length] at e1
      rw [← s.len, List.getElem?_concat_length] at e2
      cases e1; cases e2
      exact ⟨c, _, M.fn, M.code, hr⟩
theorem sx_lam {cells : List (Str × Addr)} {T : List (Addr × Str)} {i : LI} {k : Nat} (hT : g.T = T) (hl : g.lam k = i) : SdE (g.o cells) W (tLamb T i (cloFrom cells i.scope.names [])) (iLam k) := fun ι ρ S σ H Q s e h => by
  refine ⟨hT ▸ s.tb, fun f c H1 M => ?_⟩
  obtain ⟨hE, s1⟩ := made_sim (g := g.o cells) (v := none) hT hl s M ⟨cells, rfl, by rw [show (g.o cells).lam = g.lam from rfl, hl]⟩
  exact h (ι ++ [f]) H1 hE s1 _ s.newRef
theorem sx_lam0 {cells : List (Str × Addr)} {base : Heap} {T : List (Addr × Str)} {i : LI} {k : Nat} (hT : g.T = T) (hl : g.lam k = i) (hc : cloFrom cells i.scope.names [] = []) (hf : i.fr = []) : SdE (g.b base) W (tLamb T i (cloFrom cells i.scope.names [])) (iLam0 k) := fun ι ρ S σ H Q s e h => by
  refine ⟨hT ▸ s.tb, fun f c H1 M => ?_⟩
  obtain ⟨hE, s1⟩ := made_sim (g := g.b base) (v := some []) hT hl s M ⟨[], ⟨rfl, fun i x e => by cases e⟩, by
    rw [show (g.b base).lam = g.lam from rfl, hl, hc, hf]
    exact ⟨rfl, fun y c e => (by cases e), fun x y c e => (by cases e), fun i y e => (by cases e)⟩⟩
  exact h (ι ++ [f]) H1 hE s1 _ s.newRef
/-! ### a lambda called -/
def iSpL (g : Gm) (lf : LFn) : List (Option V) → Sp := fun ws vs H Q E => ∃ ι S xs cs, Sim g ι S H ∧ VRs g ι xs vs ∧ CapR g ι cs ws ∧ P g ι H (fun c H' => E (.ref (g.γ c)) none H') (fun x ι' H' => ∀ v, VR g ι' x v → Q v H') (lf cs xs S)
/-- the lambdas of a table -/
def LT (g : Gm) (base : Heap) (tab : List (Nat × LFn)) : LI → (List (Option V) → Sp) → Prop := fun i sp => ∃ id lf, tab.lookup id = some lf ∧ i = g.lam id ∧ sp = iSpL (g.b base) lf
theorem sx_callV {base : Heap} {k : Nat} {tab : List (Nat × LFn)} {WW : WX} {tA : TA} {iA : IA} (ha : SdA (g.b base) (WV (g.b base) WW) tA iA) : SdE (g.b base) (WV (g.b base) WW) (tCallV base k (LT g base tab) WW tA) (iCallV k tab iA) := fun ι ρ S σ H Q s e h => by
  unfold iCallV at h
  split at h
  · rename_i n hn
    split at h
    · rename_i i cs hS
      split at h
      · rename_i lf hf
        obtain ⟨v, h1, a, ha1, rfl⟩ := e.at_ k _ hn
        have ho := s.ob n _ a hS ha1
        obtain ⟨c, cl, q1, q2, ws, q3, q4⟩ := ho
        refine ⟨g.lam i, iSpL (g.b base) lf, a, c, cl, ws, ⟨i, lf, hf, rfl, rfl⟩, h1, q1, q4, ?_⟩
        exact ha ι ρ S σ H _ s e (h.then fun xs ι1 S1 H1 l s1 h2 vs r => ⟨l.fz.ex _ _ q1, l.fz.ex _ _ q2, ι1, S1, xs, cs, s1, r, q3.mono l.le, h2⟩)
      · exact h.elim
    · exact h.elim
  · exact h.elim
theorem iSpL_len {p c n : Nat} {e : IE} {ps : List Str} (hp : ps.length = p) : ∀ ws vs H Q E, iSpL g (mkLam p c n e) ws vs H Q E → vs.length = ps.length := by
  rintro ws vs H Q E ⟨ι, S, xs, cs, s, r, q, h⟩
  rw [hp, ← Paired.len r]
  unfold mkLam at h
  split at h
  · rename_i hc; exact hc.1
  · exact h.elim
theorem er_lam {N : List Str} {xs : List Va} {vs : List V} {cs : List (Option Va)} {ws : List (Option V)} (r : VRs g ι xs vs) (q : CapR g ι cs ws) : ER g ι (xs.map some ++ (cs ++ List.replicate (N.length - xs.length - cs.length) none)) (startF N vs ws) := by
  unfold startF
  refine ⟨by simp [Paired.len r, q.len], fun k x e => ?_⟩
  by_cases hk : k < xs.length
  · rw [List.getElem?_append_left (by rw [List.length_map]; exact hk), List.getElem?_map] at e
    cases ex : xs[k]? with
    | none => rw [ex] at e; cases e
    | some y =>
      rw [ex] at e
      have e' : y = x := by simpa using e
      subst e'
      obtain ⟨v, h1, h2⟩ := Paired.get r ex
      exact ⟨v, by rw [List.getElem?_append_left (by rw [List.length_map, ← Paired.len r]; exact hk), List.getElem?_map, h1]; rfl, h2⟩
  · rw [List.getElem?_append_right (by rw [List.length_map]; omega), List.length_map] at e
    by_cases hk2 : k - xs.length < cs.length
    · rw [List.getElem?_append_left hk2] at e
      obtain ⟨v, h1, h2⟩ := q.at_ _ x e
      refine ⟨v, ?_, h2⟩
      rw [List.getElem?_append_right (by rw [List.length_map, ← Paired.len r]; omega), List.length_map, ← Paired.len r, List.getElem?_append_left (by rw [← q.len]; exact hk2)]
      exact h1
    · rw [List.getElem?_append_right (by omega), List.getElem?_replicate] at e
      split at e <;> cases e
theorem bodyL {N : List Str} {p c n : Nat} {ie : IE} {t : TE} {vs : List V} {ws : List (Option V)} {Q : VK} (h : iSpL g (mkLam p c n ie) ws vs H Q E) (hn : N.length = n) (hb : SdE g (WD g E) t ie) : t (startF N vs ws) H Q := by
  obtain ⟨ι, S, xs, cs, s, r, q, h⟩ := h
  subst hn
  unfold mkLam at h
  split at h
  · exact hb ι _ S _ H Q s (er_lam r q) h
  · exact h.elim
/-- the body of a def that makes lambdas -/
theorem Sim.hide {base : Heap} {cells : List (Str × Addr)} (s : Sim ((g.b base).o cells) ι S H) : Sim (g.b base) ι (S.map hideO) H := by
  have al : Alike ((g.b base).o cells) (g.b base) := ⟨rfl, rfl, rfl, rfl, rfl, rfl, rfl, rfl⟩
  refine s.al al (by simp) fun n o o' p e1 e2 e3 h => ?_
  rw [List.getElem?_map, e1] at e2
  have e4 : hideO o = o' := Option.some.inj e2
  subst e4
  cases o with
  | clo i vs =>
    obtain ⟨c, cl, h1, h2, h3⟩ := h
    cases vs with
    | none => show H p ≠ none; rw [h1]; intro z; cases z
    | some xs => obtain ⟨ws, h4, h5⟩ := h3; exact ⟨c, cl, h1, h2, ws, h4.al al, h5⟩
  | _ => exact h.al al rfl
theorem Sim.own {base : Heap} (cells : List (Str × Addr)) (s : Sim (g.b base) ι S H) : Sim ((g.b base).o cells) ι S H := by
  have al : Alike (g.b base) ((g.b base).o cells) := ⟨rfl, rfl, rfl, rfl, rfl, rfl, rfl, rfl⟩
  refine s.al al rfl fun n o o' p e1 e2 e3 h => ?_
  rw [e1] at e2; cases e2
  cases o with
  | clo i vs =>
    obtain ⟨c, cl, h1, h2, h3⟩ := h
    cases vs with
    | none => obtain ⟨cs, h4, _⟩ := h3; cases h4
    | some xs => obtain ⟨ws, h4, h5⟩ := h3; exact ⟨c, cl, h1, h2, ws, h4.al al, h5⟩
  | _ => exact h.al al rfl
theorem iSpW_len {p n : Nat} {body : IS} {ps : List Str} (hp : ps.length = p) : ∀ vs H Q E, iSpX g (mkFnW p n body) vs H Q E → vs.length = ps.length := by
  rintro vs H Q E ⟨ι, S, xs, s, r, h⟩
  rw [hp, ← Paired.len r]
  unfold mkFnW at h
  cases hm : mkFn p n body xs S with
  | no => rw [hm] at h; exact h.elim
  | ok v S' => unfold mkFn at hm; split at hm <;> first | assumption | cases hm
  | ex c S' => unfold mkFn at hm; split at hm <;> first | assumption | cases hm
theorem bodyW {N : List Str} {p n : Nat} {b : IS} {t : TS} {vs : List V} {Q : VK} {base : Heap} (cells : List (Str × Addr)) (h : iSpX (g.b base) (mkFnW p n b) vs H Q E) (hn : N.length = n) (hb : SdS ((g.b base).o cells) (WD ((g.b base).o cells) E) t b) : t { nx := fun _ H' => Q .non H', rt := Q } (L2.start N vs) H := by
  have hl := iSpW_len (ps := List.replicate p ("" : Str)) (by simp) _ _ _ _ h
  obtain ⟨ι, S, xs, s, r, h⟩ := h
  have al : Alike (g.b base) ((g.b base).o cells) := ⟨rfl, rfl, rfl, rfl, rfl, rfl, rfl, rfl⟩
  subst hn
  refine hb ι _ S _ H _ (s.own cells) ((er_start r).al al) ?_
  have hx : xs.length = p := by rw [Paired.len r, hl]; simp
  unfold mkFnW mkFn at h
  rw [if_pos hx] at h
  cases hr : b (xs.map some ++ List.replicate (N.length - xs.length) none) S with
  | nx ρ' S' => rw [hr] at h; exact fun ι' σ' H' l s' e' => h ι' H' l s'.hide _ rfl
  | rt v S' => rw [hr] at h; exact fun ι' v H' l s' r' => h ι' H' l s'.hide _ (r'.al al.symm)
  | ex c ρ' S' => rw [hr] at h; exact fun ι' σ' H' l s' e' => h ι' H' l s'.hide
  | no => rw [hr] at h; exact h.elim
end
end IL

end
section
set_option Elab.async false
set_option linter.all false
set_option maxRecDepth 100000
set_option maxHeartbeats 4000000
namespace IL
open PySem PySem.Spec PyProof.Rows L2 LamX NdefX
/-! ### a comprehension whose block is lent the frame's cells -/
def tLcW (wi : TI) (gg : TG) (tt : Heap → TT) (te : Heap → TE) (G : L2.St → Heap → Prop) (vs : List Nat) : TE := fun σ H Q => wi σ H fun J H1 => ∀ L, H1 L = none → ∀ bs, G σ bs → ∃ W : Nat → Nat → Hp → Prop, (∃ m, W 0 m (upd H1 L (.lst []))) ∧ ∀ i m H, W i m H →
  (J.stop i H ∧ Q (.ref L) H) ∨ (J.go i H ∧ ∃ Nx : Hp → Prop, (∀ H', Nx H' → ∃ m', m' < m ∧ W (i + 1) m' H') ∧ ∀ x H', J.yld i H x H' → gg x (wipe σ vs) H' fun σ2 H2 => wipe σ2 vs = wipe σ vs ∧ tt bs σ2 H2 fun b H3 =>
    if b = true then te bs σ2 H3 fun y H4 => ∃ acc, H4 L = some (.lst acc) ∧ acc.length < sizeLine ∧ Nx (upd H4 L (.lst (acc ++ [y]))) else Nx H3)
abbrev _root_.L2.Cx.reb (X : Cx) (b : Heap) : Cx := { X with base := b }
section
variable {X : Cx}
theorem _root_.L2.Inv.rebase {pp : List (Addr × Obj)} {σ : L2.St} {H : Hp} {s : Shared} {bs : Heap} (I : Inv X pp σ H s) (M : Mod X.K X.mg bs) (hb : ∀ b o, bs.get? b = some o → X.s_0.heap.get? b = some o ∧ X.H_0 b = none) (hz : bs.objs.size ≤ X.s_0.heap.objs.size) (hx : ∀ b o, bs.get? b = some o → b ∉ X.ex) (hf : X.s_0.heap.FunFrames bs X.outer) : Inv (X.reb bs) pp σ H s :=
  ⟨⟨M, I.ok.kind, I.ok.glob, I.ok.blt, I.ok.above, I.ok.inj, I.ok.has, I.ok.cab, I.ok.hd, I.ok.frames, I.ok.stk, I.ok.exf, hb, hz, hx, I.ok.exfs, hf, I.ok.frf⟩, I.os, I.bare, I.base, I.loc, I.cell, I.free, I.freeC, I.pin, I.hok, I.len⟩
theorem lc_lent {ps : List (Addr × Obj)} {s : Shared} {σ : L2.St} {H : Hp} {Q : VK} {el tg itr : Expr} {ifs : List Expr} {scp : Scope} {ow : List (Str × Nat)} {po pos' : Pos} {wi : TI} {gg : TG} {tt : Heap → TT} {te : Heap → TE} {us : Option (Value → Sem Unit)} {Qe : Value → Shared → Prop}
    (calm : X.calm = true) (hfn : ∀ x, X.fn x = true) (nod : X.N.Nodup) (I : Inv X ps σ H s) (hi : PI X tg itr wi) (ok : BlkOk X.N X.env.scope scp ow)
    (hg : ∀ (sB : Shared) (HB : Hp) (C : Addr) (cl : List (Str × Addr)) (fl : List Addr) (bs : Heap), PG ((X.blk sB HB scp (compEnvC scp cl C X.env) fl).reb bs) tg gg)
    (ht : ∀ (sB : Shared) (HB : Hp) (C : Addr) (cl : List (Str × Addr)) (fl : List Addr) (bs : Heap), PTs ((X.blk sB HB scp (compEnvC scp cl C X.env) fl).reb bs) ifs (tt bs))
    (he : ∀ (sB : Shared) (HB : Hp) (C : Addr) (cl : List (Str × Addr)) (fl : List Addr) (bs : Heap), (∀ b o, X.base.get? b = some o → bs.get? b = some o) → PE ((X.blk sB HB scp (compEnvC scp cl C X.env) fl).reb bs) el (te bs)) (hset : ∀ x, foldedSetIterable itr X.env x = pure x)
    (hw : tLcW wi gg tt te (GoodW X) (ow.map (·.2)) σ H Q)
    (back : ∀ Ln C s' m H', Inv X ps σ H' s' → Q (.ref Ln) H' → s'.heap.Ns C m → FpOk X ps H' C → compPost (model X.prog X.w) X.A X.xe us Qe (.ref Ln) C (.ok .next) s') :
    wpAny (model X.prog X.w) X.A (comprehension (.ListComp el [⟨tg, itr, ifs, 0⟩] scp po) scp X.env pos' (newList []) false (eval itr X.env) us) Qe X.xe s := by
  have caps : ∀ y ∈ scp.names, y.2 = .free → ∃ c, X.env.cells.lookup y.1 = some c := fun y hy e => (ok.free y hy e).elim (fun k => I.ok.has _ (.inl k)) fun k => I.ok.has _ (.inr k)
  refine wpAny_comprehension_free (use := us) rfl hset (closure_ok caps) ok.kind (fun y hy e => by rw [ok.uniq y hy, e]) (thn (hi.run ps s σ H _ I hw) fun xv s1 hx => thn hx fun itv u2 h2 => ?_)
  obtain ⟨it, fl, tn, J, G2, eit, I2, T, at2, fr2, qq⟩ := h2
  subst eit
  refine wpAny_newObj_type (newEnv_comp ?_) (by show 0 ≤ sizeLine; decide)
  obtain ⟨Ln, hD⟩ : ∃ Ln, u2.heap.objs.size = Ln := ⟨_, rfl⟩
  rw [hD]
  have nD : G2 Ln = none := I2.hok.fresh (Nat.le_of_eq hD)
  obtain ⟨u3, hs3⟩ : ∃ u3 : Shared, ({ u2 with heap := u2.heap.push { cls := .type "list", data := .seq ([] : List Value).toArray } } : Shared) = u3 := ⟨_, rfl⟩
  have eh : u3.heap = u2.heap.push { cls := .type "list", data := .seq ([] : List Value).toArray } := by rw [← hs3]
  have up3 : ∀ b o, u2.heap.get? b = some o → u3.heap.get? b = some o := fun b o e => by rw [eh]; exact Heap.get?_push_of_some _ e
  have J3 : Inv X ps σ (upd G2 Ln (.lst [])) u3 := by
    rw [← hs3]
    exact I2.laid (t' := u2.toks) (fun b o e => Heap.get?_push_of_some _ e) (Nat.le_of_eq hD) ⟨Nat.zero_le _, [], 0, .nil, by rw [← hD]; exact Heap.get?_push_size _ rfl⟩
  have fr3 : ∀ b ∈ fl, FpOk X ps (upd G2 Ln (.lst [])) b ∧ b < u3.heap.objs.size := fun b hb => by
    obtain ⟨o, e, _⟩ := T.obj _ _ at2 b hb
    have hlt := Heap.lt_size e
    refine ⟨⟨?_, (fr2 b hb).2⟩, by rw [eh, Heap.size_push]; exact Nat.lt_succ_of_lt hlt⟩
    rw [upd_ne (by rw [← hD]; exact Nat.ne_of_lt hlt)]; exact (fr2 b hb).1
  have at3 : tn 0 u3.heap := T.keep _ _ _ at2 fun b _ o e => up3 b o e
  -- what the block gets as its base
  obtain ⟨bs, hbs⟩ : ∃ bs, hidT u3.heap (fun b => if b ∈ frs X.stack ∨ b ∈ fl then some (.own 0) else upd G2 Ln (.lst []) b) = bs := ⟨_, rfl⟩
  have bget : ∀ {b : Addr} {o : Obj}, u3.heap.get? b = some o → upd G2 Ln (.lst []) b = none → b ∉ frs X.stack → b ∉ fl → bs.get? b = some o := fun {b o} e1 e2 e3 e4 => by
    rw [← hbs]
    exact hidT_get e1 (by rw [if_neg (fun z => z.elim e3 e4)]; exact e2)
  have bof : ∀ {b : Addr} {o : Obj}, bs.get? b = some o → u3.heap.get? b = some o ∧ upd G2 Ln (.lst []) b = none ∧ b ∉ frs X.stack ∧ b ∉ fl := fun {b o} e => by
    rw [← hbs] at e
    obtain ⟨h1, h2⟩ := of_hidT e
    by_cases hf : b ∈ frs X.stack ∨ b ∈ fl
    · rw [if_pos hf] at h2; cases h2
    · rw [if_neg hf] at h2
      exact ⟨h1, h2, fun z => hf (.inl z), fun z => hf (.inr z)⟩
  have bup : ∀ b o, X.base.get? b = some o → bs.get? b = some o := fun b o e => by
    refine bget (J3.bs b o e).1 (J3.bs b o e).2 (fun z => ?_) fun z => ?_
    · have q := (J3.stack.mem z).1
      rw [e] at q; cases q
    · rcases (fr3 b z).1.2.2.2.1 with q | q
      · exact J3.ok.noex b o e q
      · exact absurd (Nat.lt_of_lt_of_le (Heap.lt_size (J3.ok.bs b o e).1) q) (Nat.lt_irrefl _)
  have good : GoodW X σ bs := by
    refine ⟨fun cl fr ws C => C.up bup, fun sc fr js S => ?_⟩
    have cp := Caps.made (X := X) J3.ok S.sFree S.sFr S.sJs
    have C := cells_of J3 cp
    have upc : ∀ y c v, (cloFrom X.env.cells sc.names []).lookup y = some c → u3.heap.IsCell c v → bs.IsCell c v := fun y c v e ⟨o, ho, hd⟩ => ⟨o, bget ho (C.all y c e).1 (cell_nofr J3 hfn (cp.sub y c e)) (fun z => (fr3 c z).1.2.2.2.2.1 y c (cp.sub y c e) rfl), hd⟩
    exact ⟨C.len, fun y c e => ⟨rfl, let ⟨v, z⟩ := (C.all y c e).2; ⟨v, upc y c v e z⟩⟩, C.inj, fun i y e => let ⟨c, h1, h2⟩ := C.has i y e; ⟨c, h1, fun v ev => let ⟨u, r, z⟩ := h2 v ev; ⟨u, r, upc y c _ h1 z⟩⟩⟩
  have bM : Mod X.K X.mg bs := ⟨J3.mod.kin.keeps bup, J3.mod.glob.keeps bup, let ⟨mb, h1, h2⟩ := J3.mod.blt; ⟨mb, h1.keeps bup, h2⟩, J3.mod.nolimit.keeps bup⟩
  have bF : u3.heap.FunFrames bs X.stack := funFrames_none J3.stack fun L hL => by
    cases e : bs.get? L with
    | none => rfl
    | some o => exact absurd hL (bof e).2.2.1
  have bZ : bs.objs.size ≤ u3.heap.objs.size := by rw [← hbs]; exact Nat.le_of_eq (hidT_size _ _)
  obtain ⟨W, ⟨m0, w0⟩, turn⟩ := qq Ln nD bs good
  have J4a := block_start J3 ok nod fr3
  have J4 := J4a.rebase bM (fun b o e => ⟨(bof e).1, (bof e).2.1⟩) bZ (fun b o e => (bof e).2.2.2) bF
  have rg := hg u3 (upd G2 Ln (.lst [])) u3.heap.objs.size (cellsFrom (u3.heap.objs.size + 1) scp.names (cloFrom X.env.cells scp.names [])) fl bs
  have rt := ht u3 (upd G2 Ln (.lst [])) u3.heap.objs.size (cellsFrom (u3.heap.objs.size + 1) scp.names (cloFrom X.env.cells scp.names [])) fl bs
  have re := he u3 (upd G2 Ln (.lst [])) u3.heap.objs.size (cellsFrom (u3.heap.objs.size + 1) scp.names (cloFrom X.env.cells scp.names [])) fl bs bup
  rw [hs3]
  show codeAny _ _ (.compStart (.ListComp el [⟨tg, itr, ifs, 0⟩] scp po) 0 (.ref it) (.ref Ln) (compEnvC scp (cellsFrom (u3.heap.objs.size + 1) scp.names (cloFrom X.env.cells scp.names [])) u3.heap.objs.size X.env)) (compPost (model X.prog X.w) X.A X.xe us Qe (.ref Ln) u3.heap.objs.size) { u3 with heap := pushCells (u3.heap.push { cls := .type "dict", data := .dict #[] }) scp.names }
  have nfl : ∀ b ∈ fl, (upd G2 Ln (.lst [])) b = none := fun b hb => (fr3 b hb).1.1
  obtain ⟨ev, hce⟩ : ∃ ev, compEnvC scp (cellsFrom (u3.heap.objs.size + 1) scp.names (cloFrom X.env.cells scp.names [])) u3.heap.objs.size X.env = ev := ⟨_, rfl⟩
  rw [hce] at J4 J4a rg rt re ⊢
  have cL : ev.locals = u3.heap.objs.size := by rw [← hce]; rfl
  obtain ⟨G3, hH3⟩ : ∃ G3, upd G2 Ln (.lst []) = G3 := ⟨_, rfl⟩
  rw [hH3] at J3 J4 J4a rg rt re w0 nfl fr3 bof
  obtain ⟨u4, hs4⟩ : ∃ u4 : Shared, ({ u3 with heap := pushCells (u3.heap.push { cls := .type "dict", data := .dict #[] }) scp.names } : Shared) = u4 := ⟨_, rfl⟩
  rw [hs4] at J4 J4a ⊢
  have at4 : tn 0 u4.heap := T.keep _ _ _ at3 fun b _ o e => by rw [← hs4]; exact pushCells_keeps _ _ _ _ (Heap.get?_push_of_some _ e)
  have statB : ∀ {σ' : L2.St} {H' : Hp} {s' : Shared}, Inv ((X.blk u3 G3 scp ev fl).reb bs) [] σ' H' s' → (∀ b ∈ fl, H' b = none) → ∀ b ∈ fl, FpOk ((X.blk u3 G3 scp ev fl).reb bs) [] H' b := fun {σ' H' s'} J hns b hb =>
    ⟨hns b hb, (J.ok.exf b hb).1, J.ok.exfs b hb, .inl hb, fun x c e => (J.ok.exf b hb).2 x c e, fun r hr => absurd (show r ∈ ([] : List (Addr × Obj)) ++ [] from hr) (by simp)⟩
  have turns : codeAny (model X.prog X.w) X.A (.compLoop (.ListComp el [⟨tg, itr, ifs, 0⟩] scp po) 0 (.ref it) (.ref Ln) ev) (compPost (model X.prog X.w) X.A X.xe us Qe (.ref Ln) u3.heap.objs.size) u4 := by
    refine compLoop_any (fun n sN => ∃ k HN, Inv ((X.blk u3 G3 scp ev fl).reb bs) [] (wipe σ (ow.map (·.2))) HN sN ∧ tn k sN.heap ∧ (∀ b ∈ fl, HN b = none) ∧ W k n HN) ?_ m0 ⟨0, G3, J4, at4, nfl, w0⟩
    rintro n u5 ⟨k, G5, J5, at5, n5, w5⟩
    rcases turn k n G5 w5 with ⟨stop, qd⟩ | ⟨go, Nx, hNx, step⟩
    · refine thnF (T.done ((X.blk u3 G3 scp ev fl).reb bs) rfl rfl rfl calm k [] u5 _ G5 (fun _ _ => False) J5 (statB J5 n5) at5 stop) fun r u6 ⟨hr, J6⟩ => ?_
      subst hr
      have J7 : Inv X ps σ G5 u6 := J3.call' (ch := fl) J6.os J6.base J6.hok J6.bare fun b hb => ⟨(fr3 b hb).1.2.2.2.1, (fr3 b hb).1.2.1, (fr3 b hb).1.2.2.2.2.1, (fr3 b hb).1.2.2.2.2.2⟩
      have nC : G5 u3.heap.objs.size = none := by rw [← cL]; exact J6.free
      obtain ⟨m, hns, _⟩ := J6.loc
      have hns : u6.heap.Ns ev.locals m := hns
      rw [cL] at hns
      exact back Ln u3.heap.objs.size u6 m G5 J7 qd hns (J3.fpOk (Nat.le_refl _) nC)
    · refine thnF (T.item ((X.blk u3 G3 scp ev fl).reb bs) rfl rfl rfl calm k [] u5 _ G5 (fun _ _ => False) J5 (statB J5 n5) at5 go) fun r u6 ⟨u, hr, h6⟩ => ?_
      subst hr
      refine thnF h6 fun _ u7 ⟨x, G7, J7, r7, y7, at7, n7⟩ => ?_
      have I7' := J7.pinned (statB J7 n7) (T.obj _ _ at7)
      refine thnF (rg.run _ u7 _ G7 x u _ I7' r7 (step x G7 y7)) fun _ u8 ⟨τ8, G8, J8, hv8, z8⟩ => ?_
      refine thnF (rt.run _ u8 τ8 G8 _ J8 z8) fun b u9 ⟨G9, J9, z9⟩ => ?_
      have fin : ∀ {sE : Shared} {HE : Hp}, Inv ((X.blk u3 G3 scp ev fl).reb bs) ([] ++ pinsAt fl u7.heap) τ8 HE sE → Nx HE → ∃ m, m < n ∧ ∃ j HN, Inv ((X.blk u3 G3 scp ev fl).reb bs) [] (wipe σ (ow.map (·.2))) HN sE ∧ tn j sE.heap ∧ (∀ b ∈ fl, HN b = none) ∧ W j m HN := fun {sE HE} J nx => by
        obtain ⟨m', hm, w'⟩ := hNx HE nx
        have keep7 : ∀ b ∈ fl, ∀ o, u7.heap.get? b = some o → sE.heap.get? b = some o ∧ HE b = none := fun b hb o e =>
          have z := J.pin (b, o) (List.mem_append_right _ (List.mem_append_right _ (mem_pinsAt hb e)))
          ⟨z.1, z.2.1⟩
        have hlen : (wipe σ (ow.map (·.2))).length = τ8.length := by rw [← hv8, wipe_length]
        refine ⟨m', hm, k + 1, HE, (J.unpinned (pins := [])).weak hlen (fun j v e => ?_), T.keep _ _ _ at7 fun b hb o e => (keep7 b hb o e).1, fun b hb => ?_, w'⟩
        · rw [← hv8] at e; exact (wipe_some e).1
        · obtain ⟨o, e, _⟩ := T.obj _ _ at7 b hb; exact (keep7 b hb o e).2
      cases b with
      | false => simp only [Bool.false_eq_true, if_false] at z9 ⊢; exact fin J9 z9
      | true =>
        simp only [if_true] at z9 ⊢
        exact thnF (re.run _ u9 τ8 G9 _ J9 z9) fun z u10 ⟨yv, G10, J10, r10, acc, hD10, hz10, nx⟩ => app_ok (X := ((X.blk u3 G3 scp ev fl).reb bs)) J10 hD10 hz10 r10 fun u11 J11 => fin J11 nx
  exact codeAny_compStart_list turns (T.self X.A 0 _ _ _ at4 turns)
theorem px_lcW {elt tg iter : Expr} {ifs : List Expr} {scope : Scope} {own : List (Str × Nat)} {pos : Pos} {wi : TI} {gg : TG} {tt : Heap → TT} {te : Heap → TE} (calm : X.calm = true) (hfn : ∀ x, X.fn x = true) (nod : X.N.Nodup) (hi : PI X tg iter wi) (ok : BlkOk X.N X.env.scope scope own)
    (hg : ∀ (sB : Shared) (HB : Hp) (C : Addr) (cl : List (Str × Addr)) (fp : List Addr) (bs : Heap), PG ((X.blk sB HB scope (compEnvC scope cl C X.env) fp).reb bs) tg gg)
    (ht : ∀ (sB : Shared) (HB : Hp) (C : Addr) (cl : List (Str × Addr)) (fp : List Addr) (bs : Heap), PTs ((X.blk sB HB scope (compEnvC scope cl C X.env) fp).reb bs) ifs (tt bs))
    (he : ∀ (sB : Shared) (HB : Hp) (C : Addr) (cl : List (Str × Addr)) (fp : List Addr) (bs : Heap), (∀ b o, X.base.get? b = some o → bs.get? b = some o) → PE ((X.blk sB HB scope (compEnvC scope cl C X.env) fp).reb bs) elt (te bs)) (hset : ∀ x, foldedSetIterable iter X.env x = pure x := by intro _; rfl) :
    PE X (.ListComp elt [⟨tg, iter, ifs, 0⟩] scope pos) (tLcW wi gg tt te (GoodW X) (own.map (·.2))) := by
  refine ⟨fun ps s σ H Q I hw => ?_⟩
  rw [eval_ListComp]
  refine lc_lent calm hfn nod I hi ok hg ht he hset hw fun D C s' m H' I' qd hn ff => ⟨m, hn, fun h'' sb => ?_⟩
  obtain ⟨a0, a1, _, a3, a4, a5⟩ := ff
  exact ⟨.ref D, H', I'.turned (t' := s'.toks) (fun b o hb e => (sb.2 b hb).trans e) a0 a1 a3 a4 a5, rfl, qd⟩
end
/-! ### its soundness -/
section
variable {g g' : Gm} {ι ι' : List Addr} {S : Sto} {H H' : Hp} {ρ : Env} {σ : L2.St} {W : WH} {E : XK}
/-- the walk's guard does not look at lambdas -/
def Frd (I : Its) : Prop := ∀ S : Sto, I.chk S = true → I.chk (S.map hideC) = true
theorem Sim.hidden (al : Alike g g') (s : Sim g ι S H) : Sim g' ι (S.map hideC) H := by
  refine s.al al (by simp) fun n o o' p e1 e2 e3 h => ?_
  rw [List.getElem?_map, e1] at e2
  have e4 : hideC o = o' := Option.some.inj e2
  subst e4
  cases o with
  | clo i v =>
    obtain ⟨c, cl, h1, h2, h3⟩ := h
    show H p ≠ none
    rw [h1]; intro z; cases z
  | _ => exact h.al al rfl
theorem Sim.mix {H2 : Hp} (al : Alike g' g) (s : Sim g ι S H) (fz : Frz H H2) (s2 : Sim g' ι (S.map hideC) H2) : Sim g ι S H2 := by
  refine s2.al al (by simp) fun n o o' p e1 e2 e3 h => ?_
  rw [List.getElem?_map, e2] at e1
  have e4 : hideC o' = o := Option.some.inj e1
  subst e4
  cases o' with
  | clo i v =>
    obtain ⟨c, cl, h1, h2, h3⟩ := s.ob n _ p e2 e3
    exact ⟨c, cl, fz.ex _ _ h1, fz.ex _ _ h2, h3⟩
  | _ => exact h.al al rfl
theorem ItR.al (al : Alike g g') {it : It1} {x : V} (h : ItR g ι H it x) : ItR g' ι H it x := by
  cases it with
  | one v => exact VR.al al h
  | tup vs => obtain ⟨T, ws, h1, h2, h3⟩ := h; exact ⟨T, ws, h1, h2, VRs.al al h3⟩
theorem wk_al {J : It} {I : Its} (al : Alike g g') (fr : Frd I) (wk : Wk g ι H J I) : Wk g' ι H J I := by
  obtain ⟨G, Y, w, h1, h2⟩ := wk
  refine ⟨G, Y, w, fun ι1 S1 H1 le fz s hc => h1 ι1 _ H1 le fz (s.hidden al.symm) (fr _ hc), fun k it ι1 S1 H1 x H2 e le fz s hc hy => ?_⟩
  obtain ⟨q1, q2, q3⟩ := h2 k it ι1 _ H1 x H2 e le fz (s.hidden al.symm) (fr _ hc) hy
  exact ⟨Sim.mix al s q2.fz q1, q2, q3.al al⟩
theorem frd_at {S1 : Sto} {x : Va} {o : Ob} (hx : ∀ n, x = .ref n → ∃ o, S1[n]? = some o ∧ isClo o = false) {S' : Sto} (h : sameAt S1 x S' = true) : sameAt S1 x (S'.map hideC) = true := by
  cases x with
  | ref n =>
    simp only [sameAt, decide_eq_true_eq] at h ⊢
    obtain ⟨o, h1, h2⟩ := hx n rfl
    rw [List.getElem?_map, h, h1]
    cases o <;> first | rfl | cases h2
  | _ => exact h
theorem frd_list {a : IE} (ρ : Env) (S : Sto) (I : Its) (S1 : Sto) (h : itList a ρ S = .ok I S1) : Frd I := by
  unfold itList at h
  cases ha : a ρ S with
  | ok x S2 =>
    rw [ha, R.bind_ok] at h
    split at h
    · rename_i xs hx
      cases h
      intro S' hc
      refine frd_at (o := .hid) (fun n e => ?_) hc
      subst e
      simp only [getL] at hx
      split at hx
      · rename_i ys hy; exact ⟨_, hy, rfl⟩
      · cases hx
    · cases h
  | ex c S2 => rw [ha] at h; cases h
  | no => rw [ha] at h; cases h
theorem frd_tup {a : IE} (ρ : Env) (S : Sto) (I : Its) (S1 : Sto) (h : itTup a ρ S = .ok I S1) : Frd I := by
  unfold itTup at h
  cases ha : a ρ S with
  | ok x S2 =>
    rw [ha, R.bind_ok] at h
    split at h
    · rename_i xs hx
      cases h
      intro S' hc
      refine frd_at (o := .hid) (fun n e => ?_) hc
      subst e
      simp only [getT] at hx
      split at hx
      · rename_i ys hy; exact ⟨_, hy, rfl⟩
      · cases hx
    · cases h
  | ex c S2 => rw [ha] at h; cases h
  | no => rw [ha] at h; cases h
theorem frd_rng {a : IE} (ρ : Env) (S : Sto) (I : Its) (S1 : Sto) (h : itRng a ρ S = .ok I S1) : Frd I := by
  unfold itRng at h
  cases ha : a ρ S with
  | ok x S2 =>
    rw [ha, R.bind_ok] at h
    split at h
    · split at h
      · cases h; exact fun _ _ => rfl
      · cases h
    · cases h
  | ex c S2 => rw [ha] at h; cases h
  | no => rw [ha] at h; cases h
theorem sx_lcW {base : Heap} {cells : List (Str × Addr)} {caps : List (Nat × List Nat)} {X : Cx} {wi : TI} {ii : II} {gt : TG} {tg : IG} {tt : Heap → TT} {it : IT} {te : Heap → TE} {ie : IE} {vs : List Nat} (hX : X.env.cells = cells) (hB : X.base = base) (hc : ∀ i js, caps.lookup i = some js → Stat X (g.lam i).scope (g.lam i).fr js)
    (hw : SdI ((g.b base).o cells) W wi ii) (hfr : ∀ ρ S I S1, ii ρ S = .ok I S1 → Frd I) (hg : ∀ bs, SdG (g.b bs) W0 gt tg) (wp : Wp gt vs) (ht : ∀ bs, SdT (g.b bs) W0 (tt bs) it) (he : ∀ bs, SdE (g.b bs) W0 (te bs) ie) : SdE ((g.b base).o cells) W (tLcW wi gt tt te (GoodW X) vs) (iLcW caps ii tg it ie vs) := fun ι ρ S σ H Q s e h => by
  refine hw ι ρ S σ H _ s e ?_
  unfold iLcW at h
  cases hii : ii ρ S with
  | ok I S1 =>
    rw [hii, R.bind_ok] at h
    have frd := hfr _ _ _ _ hii
    intro ι1 H1 l s1 J wk A hA bs G
    have h1 := P.le l h
    have al : Alike ((g.b base).o cells) (g.b bs) := ⟨rfl, rfl, rfl, rfl, rfl, rfl, rfl, rfl⟩
    split at h1
    · rename_i hz
      cases hl : lcL I.chk tg it ie (wipeE ρ vs) I.items (S1.map (closeO caps ρ)) with
      | ok ys S9 =>
        rw [hl, R.bindN_ok] at h1
        refine lc_gen (hg bs) wp (ht bs) (he bs) (wk_al al frd wk) hz (s1.close (e.mono l.le) hX hB hc G) ((e.mono l.le).al al) hA hl fun ι2 H2 acc l2 fr fz na ha s2 r => ?_
        have s3 : Sim ((g.b base).o cells) ι2 (openS S1 S9) H2 := s1.opened' al.symm l2 fz s2
        refine h1 (ι2 ++ [A]) H2 ⟨l2.trans (Le.snoc _ _), fun a h2 h3 h4 => ?_, fz⟩ ?_ _ s3.newRef
        · have hap : a ≠ A := fun z => h3 (z ▸ hA)
          obtain ⟨x, y⟩ := fr a hap h2 h3 h4
          exact ⟨fun z => (List.mem_append.mp z).elim x fun z => hap (List.mem_singleton.mp z), y⟩
        · have := s3.join (o := .lst ys) (u := .lst acc) na (notFrz_lst ha) ⟨acc, upd_same, (r.al al.symm).mono (Le.snoc _ _)⟩
          rwa [upd_self ha] at this
      | ex c S9 => rw [hl] at h1; exact h1.elim
      | no => rw [hl] at h1; exact h1.elim
    · exact h1.elim
  | ex c S1 => rw [hii] at h; exact h
  | no => rw [hii] at h; exact h
end
end IL

end
section
set_option Elab.async false
set_option linter.all false
set_option maxRecDepth 100000
set_option maxHeartbeats 4000000
namespace IL
open PySem PySem.Spec PyProof.Rows L2 LamX
/-! ### the end of a law with lambdas -/
abbrev gmZ (K : PySem.W.Frag) (a0 : Addr) (ns : List Int) (hs : Prop) (T : List (Addr × Str)) (lam : Nat → LI) : Gm := gmOf K a0 ns hs T lam fun _ _ _ => True
def lawSpZ (f : List Int → Fn) (K : PySem.W.Frag) (T : List (Addr × Str)) (lam : Nat → LI) : Sp := fun vs H Q E => ∀ base : Heap, ∃ (a0 : Addr) (ns : List Int) (hs : Prop), iSpX ((gmZ K a0 ns hs T lam).b base) (f ns) vs H Q E
theorem fnok_exZ {P : Program} {w : World} {K : PySem.W.Frag} {mg : Str → Option Value} {base : Heap} {CX : CXT} {k : Nat} {f : Addr} {fd : FuncData} {ps : List Str} {i : List Int → Fn} {T : List (Addr × Str)} {lam : Nat → LI}
    (h : ∀ (a0 : Addr) (ns : List Int) (hs : Prop), FnOk P w K mg base CX k f fd ps (iSpX ((gmZ K a0 ns hs T lam).b base) (i ns))) : FnOk P w K mg base CX k f fd ps (lawSpZ i K T lam) :=
  ⟨fun vs H Q E q => let ⟨a0, ns, hs, q⟩ := q base; (h a0 ns hs).len vs H Q E q, fun A outer s H args us vs Q E hr he hb hv q => let ⟨a0, ns, hs, q⟩ := q base; (h a0 ns hs).run A outer s H args us vs Q E hr he hb hv q⟩
theorem law_spZ {f : List Int → Fn} {K : PySem.W.Frag} {T : List (Addr × Str)} {lam : Nat → LI} {H : Hp} {a : Addr} {ns : List Int} (ht : LawT f ns) (hT : Tabs T H) (hS : SqL K H a (ns.map V.int)) : lawSpZ f K T lam [.ref a] H (fun v _ => v = .bl true) fun _ _ _ => False := by
  obtain ⟨⟨S1, h1⟩, S2, h2⟩ := ht
  intro base
  by_cases hl : H a = some (.lst (ns.map V.int))
  · refine ⟨a, ns, False, [a], [.lst (ns.map .int)], [.ref 0], ⟨by simp, rfl, fun n o p e1 e2 => ?_, fun _ _ z => z.elim, hT⟩, .cons ⟨a, rfl, rfl⟩ .nil, ?_⟩
    · cases n with
      | zero => cases e1; cases e2; exact ⟨_, hl, vr_ints _⟩
      | succ n => simp at e1
    · rw [h2]; exact fun ι' H' _ _ v r => r
  · refine ⟨a, ns, True, [], [], [.scr ns], ⟨by simp, rfl, fun n o a e => by simp at e, fun H' f _ => ?_, hT⟩, .cons ⟨rfl, rfl, trivial⟩ .nil, ?_⟩
    · rcases hS with r | r
      · rcases r with r | ⟨o, r⟩
        · exact absurd r hl
        · exact .inl (.inr ⟨o, f.fz a o _ r⟩)
      · exact .inr r
    · rw [h1]; exact fun ι' H' _ _ v r => r
theorem cx_end {l : PySem.W.OpenLaw} (w : World) (H : Hp) (s : PySem.Shared) (e : Value) (s' : PySem.Shared) (h : CXN l.prog w [] H s (fun _ _ _ => False) e s') : False := by
  obtain ⟨_, _, _, _, _, _, _, _, _, _, _, _, z⟩ := h
  exact z
/-- a maker's code object and its table -/
structure MkT (K : PySem.W.Frag) (h : Heap) (x : Str) (c P : Addr) : Prop where
  code : PySem.W.CodeHd h c P
  tab : h.get? P = some { cls := .none, data := .fields #[] }
  non : K.lookup P = none
theorem walkZ {l : PySem.W.OpenLaw} {k : Nat} {q : Program} {loose : List Str} {XP : (Str → Option Value) → Heap → Prop} {YP : World → Heap → Prop} {d : DefRec} {K : Params → PySem.W.Frag} {x : Str} {i : List Int → Fn} {lam : Nat → LI}
    (hn : l.most = some 63) (hdf : d.params.defaults = []) (hr : Room k callerA) (hY : ∀ (w : World) (h : Heap), YP w h → (K w.params).In h)
    (F : ∀ (w : World) (mg mb : Str → Option Value) (fa : Addr) (h : Heap) (mean : PySem.ExcName → Option Value), Top q (PySem.W.looseW q loose) mean mg mb h → (K w.params).In h → h.Ns mainGlobals mg → mg d.name = some (.ref fa) →
      ∃ (fd : FuncData) (cs : List (Str × Addr × Addr)), (∀ p ∈ cs, MkT (K w.params) h p.1 p.2.1 p.2.2) ∧ (∀ (s : PySem.Shared) (u : Value), BindsTo s fd ⟨[u], []⟩ [(x, u)]) ∧
        ∀ base : Heap, (K w.params).In base → base.Ns mainGlobals mg → (∀ p ∈ cs, TabB base mg p.2.1 p.2.2) → FnOk l.prog w (K w.params) mg base (CXN l.prog w) k fa fd [x] (lawSpZ i (K w.params) (cs.map fun p => (p.2.2, p.1)) lam))
    (ht : ∀ ns : List Int, ns.length ≤ 63 → (∀ z ∈ ns, Builtin.Int.intBits z ≤ 1048576) → LawT i ns) :
    PySem.W.WalkO q loose XP YP l.row.toRowW d [] (fun f vs => PySem.call f vs) := by
  refine Att.attach_callB hn hdf fun w s₀ s₁ mg mb fa o pm cd doc a vs ns G Y ho hd hcd hmg hobj hints hlen hbits hg => ?_
  have KX := hY w _ Y
  obtain ⟨fd, cs, hM, hb, hF⟩ := F w mg mb fa _ _ G.T KX G.T.g hmg
  have mem : ∀ p ∈ cs.map (·.2), ∃ x, (x, p) ∈ cs := fun p hp => by
    obtain ⟨⟨x, p'⟩, h1, h2⟩ := List.mem_map.mp hp
    exact ⟨x, h2 ▸ h1⟩
  refine law_callTs (cs := cs.map (·.2)) KX G.T.g G.T.b G.T.builtins G.T.nolimit hg (fun p hp => let ⟨x, z⟩ := mem p hp; (hM _ z).tab) (fun p hp => let ⟨x, z⟩ := mem p hp; (hM _ z).non) (fun p hp => let ⟨x, z⟩ := mem p hp; (hM _ z).code) G.T.bmain hobj hints (Nat.le_trans hlen (by decide)) hr
    (fun base h1 h2 h3 => hF base h1 h2 fun p hp => h3 _ (List.mem_map.mpr ⟨p, hp, rfl⟩)) hb (fun H hH hS => law_spZ (ht ns hlen hbits) (fun p hp => ?_) hS) fun H e s' => cx_end w H s₁ e s'
  obtain ⟨r, hr, e⟩ := List.mem_map.mp hp
  subst e
  exact TabS.nil (hH _ (List.mem_map.mpr ⟨r, hr, rfl⟩))
theorem mkT {K : PySem.W.Frag} {h : Heap} {q : Program} {loose : List Str} {mean : PySem.ExcName → Option Value} {mg mb : Str → Option Value} {x : Str} {r : DefRec} {c P : Addr} {y : Str} (T : Top q loose mean mg mb h) (X : K.In h) (hr : (recsOf q).find? (fun e => e.name == x) = some r) (ht : PySem.W.tabIn K x = some (c, P)) (hn : K.lookup P = none) : MkT K h y c P :=
  ⟨(PySem.W.tab_of T X hr ht).1, (PySem.W.tab_of T X hr ht).2, hn⟩
end IL

end
section
set_option Elab.async false
set_option linter.all false
set_option maxRecDepth 100000
set_option maxHeartbeats 4000000
namespace IL
open PySem PySem.Spec PyProof.Rows L2 LamX
/-! ### what the printed texts use -/
def noE : Expr := .Name "" ⟨0, 0, 0, 0⟩
def stAt (l : List Stmt) (k : Nat) : Stmt := l.getD k (.Pass ⟨0, 0, 0, 0⟩)
def inB : Stmt → List Stmt
  | .If _ b _ _ => b
  | .For _ _ b _ _ => b
  | _ => []
def valOf : Stmt → Expr
  | .Assign _ v _ => v
  | .Return (some v) _ => v
  | .Expr v _ => v
  | .If t _ _ _ => t
  | _ => noE
def kid : Expr → Nat → Expr
  | .List es _, k => es.getD k noE
  | .Tuple es _ _, k => es.getD k noE
  | .Call f as _ _, k => (f :: as).getD k noE
  | .BinOp l _ r _, k => [l, r].getD k noE
  | .Compare l _ rs _, k => (l :: rs).getD k noE
  | .UnaryOp _ e _, _ => e
  | .ListComp e _ _ _, _ => e
  | _, _ => noE
def liOf (q : Str) (fr : List Str) : Expr → LI
  | .Lambda a b s _ => ⟨q, a, b, s, fr⟩
  | _ => ⟨q, default, noE, default, fr⟩
def statB (nm : List (Str × NameKind)) (N : List Str) (sc : Scope) (fr : List Str) (js : List Nat) : Bool :=
  sc.names.all (fun y => !(y.2 == .free) || (nm.lookup y.1 == some .cell || nm.lookup y.1 == some .free)) && fr.all (fun y => sc.names.contains (y, NameKind.free)) && (js.map (fun j => N[j]?) == fr.map some)
theorem stat_by {X : Cx} {sc : Scope} {fr : List Str} {js : List Nat} (h : statB X.env.scope.names X.N sc fr js = true) : Stat X sc fr js := by
  unfold statB at h
  simp only [Bool.and_eq_true, List.all_eq_true, Bool.or_eq_true, Bool.not_eq_true', beq_iff_eq] at h
  obtain ⟨⟨h1, h2⟩, h3⟩ := h
  refine ⟨fun y hy e => ?_, fun y hy => ?_, h3⟩
  · rcases h1 y hy with z | z
    · rw [e] at z; cases z
    · exact z
  · exact List.contains_iff_mem.mp (h2 y hy)
theorem caps_by {X : Cx} {lam : Nat → LI} {caps : List (Nat × List Nat)} (h : caps.all (fun p => statB X.env.scope.names X.N (lam p.1).scope (lam p.1).fr p.2) = true) : ∀ i js, caps.lookup i = some js → Stat X (lam i).scope (lam i).fr js := fun i js e => by
  have hm : (i, js) ∈ caps := by
    induction caps with
    | nil => cases e
    | cons p r ih =>
      obtain ⟨a, b⟩ := p
      rw [List.lookup_cons] at e
      cases hb : i == a with
      | true => rw [hb] at e; cases e; rw [eq_of_beq hb]; exact .head _
      | false => rw [hb] at e; exact .tail _ (ih (by rw [List.all_cons, Bool.and_eq_true] at h; exact h.2) e)
  exact stat_by (List.all_eq_true.mp h _ hm)
theorem free_by {nm : List (Str × NameKind)} {sc : Scope} (h : sc.names.all (fun y => !(y.2 == .free) || (nm.lookup y.1 == some .cell || nm.lookup y.1 == some .free)) = true) : ∀ y ∈ sc.names, y.2 = .free → nm.lookup y.1 = some .cell ∨ nm.lookup y.1 = some .free := fun y hy e => by
  simp only [List.all_eq_true, Bool.or_eq_true, Bool.not_eq_true', beq_iff_eq] at h
  rcases h y hy with z | z
  · rw [e] at z; cases z
  · exact z
theorem free0_by {nm : List (Str × NameKind)} {sc : Scope} (h : sc.names.all (fun y => !(y.2 == .free)) = true) : ∀ y ∈ sc.names, y.2 = .free → nm.lookup y.1 = some .cell ∨ nm.lookup y.1 = some .free := fun y hy e => by
  have := List.all_eq_true.mp h y hy
  rw [e] at this; cases this
/-- one that captures nothing, made in a comprehension -/
theorem px_lam0 {X : Cx} {T : List (Addr × Str)} {k P : Addr} {i : LI} {pos : Pos} (TB : TabB X.base X.mg k P) (hcode : X.env.code = .ref k) (hq : X.env.qual ++ "<lambda>" = i.qual) (hm : (P, i.qual) ∈ T) (hu : ∀ p ∈ T, p.1 = P → p.2 = i.qual)
    (hn : i.scope.names.all (fun y => !(y.2 == .free)) = true) (hc : ∀ cells, cloFrom cells i.scope.names [] = []) (hdef : defaultsOf i.params X.env = ([], []) := by rfl) : PE X (.Lambda i.params i.body i.scope pos) (tLamb T i []) := by
  have h := px_lam (X := X) (pos := pos) TB hcode hq hm hu (free0_by hn) hdef
  rwa [hc] at h
theorem sx_lamN {g : Gm} {W : WH} {base : Heap} {T : List (Addr × Str)} {i : LI} {k : Nat} (hT : g.T = T) (hl : g.lam k = i) (hc : ∀ cells, cloFrom cells i.scope.names [] = []) (hf : i.fr = []) : SdE (g.b base) W (tLamb T i []) (iLam0 k) := by
  have h := sx_lam0 (g := g) (W := W) (base := base) (cells := []) hT hl (hc []) hf
  rwa [hc] at h
theorem tabB_up {base bs : Heap} {mg : Str → Option Value} {c P : Addr} (t : TabB base mg c P) (k : ∀ b o, base.get? b = some o → bs.get? b = some o) : TabB bs mg c P := ⟨t.code.keeps k, t.bm.keeps k, t.gP⟩
/-! in a handler's suite: the reading must not name the frame -/
theorem mt_indexG {X : Cx} {K : PySem.W.Frag} (hK : X.K = K) : MtR X "list.index" (rIndex K) := hK ▸ mt_index
theorem ix_seqG {X : Cx} {K : PySem.W.Frag} (hK : X.K = K) : IxR X (rIx K) := hK ▸ ix_seq
theorem op_inG {X : Cx} {K : PySem.W.Frag} (hK : X.K = K) : OpR X (compareOp .In) (rIn K false) := hK ▸ op_in_seq
theorem pe_bmG {X : Cx} {K : PySem.W.Frag} {o e : Expr} {es : List Expr} {to : TE} {t : TA} {name : Str} {apos cpos : Pos} {T id : String} {r : V → List V → Hp → VK → Prop} (hK : X.K = K) (pa : PlainAttrs T) (slot : Slot T name id) (hty : typeOf (.builtin id) = pure (.type "method_descriptor")) (hm : MtR X id r) (ho : PE X o to) (ha : PA X (e :: es) t)
    (hbase : attributeBase o name X.env (eval o X.env) = eval o X.env := by rfl)
    (hfew : ((backTo cpos (starEach (e :: es) X.env)).all (fun x => !x.1) && (backToKw cpos (keywordEach [] X.env)).all (fun x => x.1.isSome)
      && decide ((e :: es).length + ([] : List Keyword).length + (if ([] : List Keyword).isEmpty then 0 else 1) < 30)) = true := by rfl)
    (hline : (apos.endLine == cpos.line) = true := by rfl) (hs : starEach (e :: es) X.env = (false, eval e X.env) :: starEach es X.env := by rfl) (hplain : (backTo cpos (starEach es X.env)).any (·.1) = false := by rfl) :
    PE X (.Call (.Attribute o name apos) (e :: es) [] cpos) (tBM K T r to t) := hK ▸ pe_bm pa slot hty hm ho ha hbase hfew hline hs hplain
section
variable {P : Program} {w : World} {K : PySem.W.Frag} {mg : Str → Option Value} {base : Heap} {g : Gm}
/-- a maker: its code object is known -/
theorem okNC {x qual : Str} {st : Stmt} {f c : Addr} {fd : FuncData} {N ps : List Str} {k : Nat} {sp : Sp} (F : Fun K x qual st f fd) (hc : fd.code = .ref c) (S : FnScope N ps (defScope st)) (len : ∀ vs H Q E, sp vs H Q E → vs.length = ps.length)
    (hbody : ∀ (A : Around) (outer : List PySem.Env) (s : Shared) (H : Hp) (vs : List V) (Q : VK) (E : XK), Room k (A.deeper (envOfC qual (defScope st) s.heap.objs.size f (.ref c))) → sp vs H Q E →
      ∃ t, PSs (cxOf (CXN P w) P w K mg base N qual (defScope st) f (.ref c) A outer s H E) (defBody st) t ∧ t { nx := fun _ H' => Q .non H', rt := Q } (start N vs) H) : FnOk P w K mg base (CXN P w) (k + 1) f fd ps sp := by
  obtain ⟨_, _, _, _, _, _, cv, _, _, rfl, look, hcode⟩ := F.ex
  have e : cv = .ref c := hc
  subst e
  exact fn_of look hcode S len fun A0 o0 s0 H0 v0 Q0 E0 r0 q0 => hbody A0 o0 s0 H0 v0 Q0 E0 r0 q0
/-- the lambdas that a local may hold -/
abbrev LOks (P : Program) (w : World) (g : Gm) (mg : Str → Option Value) (base : Heap) (k : Nat) (tab : List (Nat × LFn)) : Prop := ∀ i sp, LT g base tab i sp → ∃ ps m, m ≤ k ∧ LOk P w g.K mg base (CXN P w) m i ps sp
theorem lt_nil {k : Nat} : LOks P w g mg base k [] := fun i sp ⟨_, _, e, _⟩ => by cases e
theorem lt_cons {k m id : Nat} {lf : LFn} {r : List (Nat × LFn)} {ps : List Str} (hm : m ≤ k) (h : LOk P w g.K mg base (CXN P w) m (g.lam id) ps (iSpL (g.b base) lf)) (hr : LOks P w g mg base k r) : LOks P w g mg base k ((id, lf) :: r) := fun i sp ⟨id', lf', e, e1, e2⟩ => by
  rw [List.lookup_cons] at e
  cases hb : id' == id with
  | true =>
    rw [hb] at e; cases e
    rw [eq_of_beq hb] at e1
    subst e1 e2
    exact ⟨ps, m, hm, h⟩
  | false => rw [hb] at e; exact hr i sp ⟨id', lf', e, e1, e2⟩
end
end IL

end
section
set_option Elab.async false
set_option linter.all false
set_option maxRecDepth 100000
set_option maxHeartbeats 4000000
namespace IL
open PySem L2
/-! ### a def called with numbers alone: it may run in a store of its own -/
section
variable {g : Gm} {ι ι' : List Addr} {S : Sto} {H H' : Hp} {E : XK}
theorem VR.flat {x : Va} {v : V} (h : flatV x = true) (r : VR g ι x v) : VR g ι' x v := by
  cases x with
  | ref n => cases h
  | scr n => cases h
  | exc n => cases h
  | _ => exact r
theorem VRs.flat : ∀ {xs : List Va} {vs : List V}, xs.all flatV = true → VRs g ι xs vs → VRs g ι' xs vs
  | _, _, _, .nil => .nil
  | _, _, h, .cons r t => by
    rw [List.all_cons, Bool.and_eq_true] at h
    exact .cons (r.flat h.1) (VRs.flat h.2 t)
theorem ObR.notTbl {p : Addr} {o : Ob} (ho : seenO o = true) (h : ObR g ι H p o) : ∀ ps, H p ≠ some (.tbl ps) := fun ps z => by
  cases o with
  | hid => cases ho
  | lst xs => obtain ⟨vs, q, _⟩ := h; rw [q] at z; cases z
  | tup xs => obtain ⟨vs, q, _⟩ := h; rw [q] at z; cases z
  | dic es => obtain ⟨vs, q, _⟩ := h; rw [q] at z; cases z
  | obj c fs => obtain ⟨dx, vs, q, _⟩ := h; rw [q] at z; cases z
  | clo j vs => obtain ⟨c', cl, q, _⟩ := h; rw [q] at z; cases z
theorem Ext.bare {ι2 : List Addr} (s : Sim g ι S H) (hS : S.all seenO = true) (e : Ext [] H ι2 H') {S2 : Sto} (s2 : Sim g ι2 S2 H') : Ext ι H ι H' ∧ Sim g ι S H' := by
  have same : ∀ p o, H p = some o → (∀ ps, o ≠ .tbl ps) → H' p = H p := fun p o h1 h2 => (e.fr p (by simp) (by rw [h1]; intro z; cases z) (fun ps z => h2 ps (by rw [h1] at z; exact Option.some.inj z))).2
  refine ⟨⟨Le.refl _, fun a h1 h2 h3 => ⟨h1, (e.fr a (by simp) h2 h3).2⟩, e.fz⟩, s.nd, s.len, fun n o p e1 e2 => ?_, fun H2 f => s.sc H2 (e.fz.trans f), s2.tb⟩
  have h := s.ob n o p e1 e2
  have ho : seenO o = true := List.all_eq_true.mp hS o (List.mem_of_getElem? e1)
  have hn := h.notTbl ho
  exact h.heap (e.fr p (by simp) h.there hn).2 e.fz.ex
theorem VR.bigs {far : Int} (hf : far = farOf g.ns) {x : Va} {v : V} (h : flatV x = true) (r : VR g ι x v) : VR g ι' (toBig far x) v := by
  have q : VR g ι' x v := r.flat h
  cases x with
  | int i =>
    by_cases e : i = far
    · rw [show toBig far (.int i) = .big false by show (if i = far then Va.big false else Va.int i) = _; rw [if_pos e]]
      show v = .int (farOf g.ns)
      rw [← hf, ← e]; exact q
    · rw [show toBig far (.int i) = .int i by show (if i = far then Va.big false else Va.int i) = _; rw [if_neg e]]
      exact q
  | _ => exact q
theorem VRs.bigs {far : Int} (hf : far = farOf g.ns) : ∀ {xs : List Va} {vs : List V}, xs.all flatV = true → VRs g ι xs vs → VRs g ι' (xs.map (toBig far)) vs
  | _, _, _, .nil => .nil
  | _, _, h, .cons r t => by
    rw [List.all_cons, Bool.and_eq_true] at h
    exact .cons (r.bigs hf h.1) (VRs.bigs hf h.2 t)
theorem sx_callE {far : Int} (hf : far = farOf g.ns) {f : Fn} {tA : TA} {iA : IA} (ha : SdA g (WD g E) tA iA) : SdE g (WD g E) (tCall (iSpX g f) [] E tA) (iCallE far f iA) := fun ι ρ S σ H Q s e h =>
  ha ι ρ S σ H _ s e (h.then fun xs ι1 S1 H1 l s1 h1 vs r => by
    split at h1
    · rename_i hc
      refine ⟨[], [], xs.map (toBig far), ⟨by simp, rfl, fun n o a e => by simp at e, s1.sc, s1.tb⟩, by rw [List.append_nil]; exact r.bigs hf hc.1, ?_⟩
      cases he : f (xs.map (toBig far)) [] with
      | ok v S3 =>
        rw [he] at h1
        dsimp only at h1
        split at h1
        · rename_i hv
          intro ι2 H2 l2 s2 u vu
          obtain ⟨q1, q2⟩ := Ext.bare s1 hc.2 l2 s2
          exact h1 ι1 H2 q1 q2 u (vu.flat hv)
        · exact h1.elim
      | ex c S3 => rw [he] at h1; exact h1.elim
      | no => rw [he] at h1; exact h1.elim
    · exact h1.elim)
end
theorem farOf_ge (ns : List Int) : 10 ^ 30 ≤ farOf ns := by unfold farOf; omega
section
variable {g : Gm} {W : WH}
theorem ltB_ok {ι ι' : List Addr} {x y : Va} {v u : V} {b : Bool} (vx : VR g ι x v) (vy : VR g ι' y u) (h : ltB x y = some b) : ∃ i j : Int, v = .int i ∧ u = .int j ∧ decide (i < j) = b := by
  have hf := farOf_ge g.ns
  unfold ltB at h
  split at h
  · cases h; exact ⟨_, _, vx, vy, rfl⟩
  · split at h
    · rename_i hc; cases h
      exact ⟨_, _, vx, vy, decide_eq_true (Int.lt_of_lt_of_le hc hf)⟩
    · cases h
  · split at h
    · rename_i hc; cases h
      exact ⟨_, _, vx, vy, decide_eq_false (by show ¬ farOf g.ns < _; omega)⟩
    · cases h
  · split at h
    · rename_i hc; cases h
      exact ⟨_, _, vx, vy, decide_eq_true (by show -farOf g.ns < _; omega)⟩
    · cases h
  · split at h
    · rename_i hc; cases h
      exact ⟨_, _, vx, vy, decide_eq_false (by show ¬ _ < -farOf g.ns; omega)⟩
    · cases h
  · cases h
theorem sr_ltB : SdR g W (rI0 fun i j => .bl (decide (i < j))) fLtB := fun ι S H x y v u σ Q s vx vy h1 => by
  unfold fLtB at h1
  split at h1
  · rename_i b hb
    obtain ⟨i, j, rfl, rfl, e⟩ := ltB_ok vx vy hb
    exact ⟨i, j, rfl, rfl, h1 ι H (Ext.refl _ _) s _ (congrArg V.bl e)⟩
  · exact h1.elim
theorem sr_gtB : SdR g W (rI0 fun i j => .bl (decide (j < i))) fGtB := fun ι S H x y v u σ Q s vx vy h1 => by
  unfold fGtB at h1
  split at h1
  · rename_i b hb
    obtain ⟨i, j, rfl, rfl, e⟩ := ltB_ok vy vx hb
    exact ⟨j, i, rfl, rfl, h1 ι H (Ext.refl _ _) s _ (congrArg V.bl e)⟩
  · exact h1.elim
theorem sr_leB : SdR g W (rI0 fun i j => .bl (decide (i ≤ j))) fLeB := fun ι S H x y v u σ Q s vx vy h1 => by
  unfold fLeB at h1
  split at h1
  · rename_i b hb
    obtain ⟨i, j, rfl, rfl, e⟩ := ltB_ok vy vx hb
    exact ⟨j, i, rfl, rfl, h1 ι H (Ext.refl _ _) s _ (by subst e; refine congrArg V.bl ?_; rw [← decide_not]; exact decide_eq_decide.mpr (by omega))⟩
  · exact h1.elim
theorem sr_geB : SdR g W (rI0 fun i j => .bl (decide (j ≤ i))) fGeB := fun ι S H x y v u σ Q s vx vy h1 => by
  unfold fGeB at h1
  split at h1
  · rename_i b hb
    obtain ⟨i, j, rfl, rfl, e⟩ := ltB_ok vx vy hb
    exact ⟨i, j, rfl, rfl, h1 ι H (Ext.refl _ _) s _ (by subst e; refine congrArg V.bl ?_; rw [← decide_not]; exact decide_eq_decide.mpr (by omega))⟩
  · exact h1.elim
theorem sd_negB {ta : TE} {ia : IE} (ha : SdE g W ta ia) : SdE g W (tUn (rU fun i => .int (-i)) ta) (iUn fNegB ia) := sd_un (fun ι S H x v σ Q s vx h1 => by
  unfold fNegB at h1
  split at h1
  · cases vx
    exact ⟨_, rfl, h1 ι H (Ext.refl _ _) s _ rfl⟩
  · rename_i b
    cases vx
    refine ⟨_, rfl, h1 ι H (Ext.refl _ _) s _ ?_⟩
    cases b with
    | true => show V.int (- -farOf g.ns) = V.int (farOf g.ns); rw [Int.neg_neg]
    | false => rfl
  · exact h1.elim) ha
theorem sc_isiB : SdC g W (rIsi g.K) fIsiB := fun ι S H xs vs σ Q s r h1 => by
  unfold fIsiB at h1
  split at h1
  · rename_i n u
    obtain ⟨v, w, rfl, vx, vy⟩ := vrs2 r
    split at h1
    · rename_i b hb
      cases vy
      exact ⟨v, .ty u, .type "int", .type u, b, rfl, .ty u, tyB_ok (x := .int (farB n g.ns)) s vx rfl, kit_ty hb, h1 ι H (Ext.refl _ _) s _ rfl⟩
    · exact h1.elim
  · exact sc_isi ι S H _ vs σ Q s r h1
end
theorem noFn_ok {P : Program} {w : World} {K : PySem.W.Frag} {mg : Str → Option Value} {base : Heap} {CX : CXT} {k : Nat} {a : Addr} {fd : FuncData} {ps : List Str} {g : Gm} : FnOk P w K mg base CX k a fd ps (iSpX g noFn) :=
  ⟨fun _ _ _ _ ⟨_, _, _, _, _, h⟩ => h.elim, fun _ _ _ _ _ _ _ _ _ _ _ _ _ ⟨_, _, _, _, _, h⟩ => h.elim⟩
end IL

end
section
set_option Elab.async false
set_option linter.all false
set_option maxRecDepth 100000
set_option maxHeartbeats 2000000
namespace IL
open PySem L2
theorem idx_get : ∀ {m : List Nat} {n k : Nat}, idx m n = some k → m[k]? = some n
  | a :: m, n, k, h => by
    unfold idx at h
    split at h
    · rename_i e; cases h; rw [Nat.eq_of_beq_eq_true e]; rfl
    · split at h
      · rename_i j e; cases h; rw [List.getElem?_cons_succ]; exact idx_get e
      · cases h
theorem hasN_mem : ∀ {m : List Nat} {n : Nat}, n ∈ m → hasN m n = true
  | a :: m, n, h => by
    unfold hasN
    rcases List.mem_cons.mp h with rfl | h
    · rw [Nat.beq_refl]; rfl
    · rw [hasN_mem h, Bool.or_true]
theorem ndB_nd : ∀ {m : List Nat}, ndB m = true → m.Nodup
  | [], _ => List.nodup_nil
  | a :: m, h => by
    unfold ndB at h
    rw [Bool.and_eq_true] at h
    refine List.nodup_cons.mpr ⟨fun z => ?_, ndB_nd h.2⟩
    rw [hasN_mem z] at h; exact absurd h.1 (by simp)
theorem mapVs_get {f : Va → Option Va} : ∀ {xs ys : List Va}, mapVs f xs = some ys → Paired (fun x y => f x = some y) xs ys
  | [], ys, h => by cases h; exact .nil
  | x :: xs, ys, h => by
    unfold mapVs at h
    split at h
    · rename_i y ys' e1 e2; cases h; exact .cons e1 (mapVs_get e2)
    · cases h
theorem mapD_get {κ : Type} {f : Va → Option Va} : ∀ {xs ys : List (κ × Va)}, mapD f xs = some ys → Paired (fun x y => y.1 = x.1 ∧ f x.2 = some y.2) xs ys
  | [], ys, h => by cases h; exact .nil
  | x :: xs, ys, h => by
    unfold mapD at h
    split at h
    · rename_i y ys' e1 e2; cases h; exact .cons ⟨rfl, e1⟩ (mapD_get e2)
    · cases h
theorem mapAt_get {f : Va → Option Va} {S : Sto} : ∀ {ns : List Nat} {os : Sto}, mapAt f S ns = some os → Paired (fun n o' => ∃ o, S[n]? = some o ∧ mapO f o = some o') ns os
  | [], os, h => by cases h; exact .nil
  | n :: ns, os, h => by
    unfold mapAt at h
    split at h
    · rename_i o e
      split at h
      · rename_i o' os' e1 e2; cases h; exact .cons ⟨o, e, e1⟩ (mapAt_get e2)
      · cases h
    · cases h
theorem fromN_le {a : Nat} : ∀ {l : List Nat} {n : Nat}, n ∈ fromN a l → a ≤ n
  | b :: l, n, h => by
    unfold fromN at h
    split at h
    · rename_i e
      rcases List.mem_cons.mp h with rfl | h
      · exact Nat.le_of_ble_eq_true e
      · exact fromN_le h
    · exact fromN_le h
theorem upto_get : ∀ (k n i : Nat), i < n → (upto k n)[i]? = some (k + i)
  | k, 0, i, h => absurd h (Nat.not_lt_zero _)
  | k, n + 1, 0, _ => rfl
  | k, n + 1, i + 1, h => by
    show (upto (k + 1) n)[i]? = _
    rw [upto_get (k + 1) n i (by omega)]; congr 1; omega
theorem upto_len : ∀ (k n : Nat), (upto k n).length = n
  | k, 0 => rfl
  | k, n + 1 => by show (upto (k + 1) n).length + 1 = _; rw [upto_len]
theorem wb_len : ∀ (S : Sto) (m : List Nat) (os : Sto), (wb S m os).length = S.length
  | S, [], os => by cases os <;> rfl
  | S, n :: m, [] => rfl
  | S, n :: m, o :: os => by rw [wb, setF_eq, wb_len, List.length_set]
theorem wb_get : ∀ (S : Sto) (m : List Nat) (os : Sto) (n : Nat) (o : Ob), m.length = os.length → (wb S m os)[n]? = some o → (∃ k : Nat, m[k]? = some n ∧ os[k]? = some o) ∨ (S[n]? = some o ∧ n ∉ m)
  | S, [], os, n, o, _, h => by
    have : wb S [] os = S := by cases os <;> rfl
    rw [this] at h; exact .inr ⟨h, List.not_mem_nil⟩
  | S, a :: m, [], n, o, e, h => by cases e
  | S, a :: m, b :: os, n, o, e, h => by
    rw [wb, setF_eq] at h
    rcases wb_get _ m os n o (by simpa using e) h with ⟨k, h1, h2⟩ | ⟨h1, h2⟩
    · exact .inl ⟨k + 1, by simpa using h1, by simpa using h2⟩
    · by_cases ha : n = a
      · subst ha
        have hl : n < S.length := by have := (List.getElem?_eq_some_iff.mp h1).1; simpa using this
        rw [List.getElem?_set_self hl] at h1
        exact .inl ⟨0, rfl, by simpa using h1⟩
      · rw [List.getElem?_set_ne (Ne.symm ha)] at h1
        exact .inr ⟨h1, fun z => (List.mem_cons.mp z).elim ha h2⟩
section
variable {g : Gm} {ι ι2 : List Addr} {S : Sto} {H H' : Hp} {E : XK}
theorem mapO_ok {f : Va → Option Va} {a : Addr} {o o' : Ob} (hf : ∀ x y v, f x = some y → VR g ι x v → VR g ι2 y v) (h : mapO f o = some o') (r : ObR g ι H a o) : ObR g ι2 H a o' := by
  have all : ∀ {xs ys : List Va} {vs : List V}, Paired (fun x y => f x = some y) xs ys → VRs g ι xs vs → VRs g ι2 ys vs := fun {xs ys vs} h1 h2 => by
    induction h1 generalizing vs with
    | nil => cases h2; exact .nil
    | cons e _ ih => cases h2 with | cons q t => exact .cons (hf _ _ _ e q) (ih t)
  cases o with
  | lst xs =>
    simp only [mapO, Option.map_eq_some_iff] at h
    obtain ⟨ys, h1, rfl⟩ := h
    obtain ⟨vs, h2, h3⟩ := r
    exact ⟨vs, h2, all (mapVs_get h1) h3⟩
  | tup xs =>
    simp only [mapO, Option.map_eq_some_iff] at h
    obtain ⟨ys, h1, rfl⟩ := h
    obtain ⟨vs, h2, h3⟩ := r
    exact ⟨vs, h2, all (mapVs_get h1) h3⟩
  | dic es =>
    simp only [mapO, Option.map_eq_some_iff] at h
    obtain ⟨ys, h1, rfl⟩ := h
    obtain ⟨vs, h2, h3⟩ := r
    refine ⟨vs, h2, ?_⟩
    have h5 := mapD_get h1
    clear h1 h2
    induction h5 generalizing vs with
    | nil => cases h3; exact .nil
    | cons e _ ih => cases h3 with | cons q t => exact .cons ⟨by rw [e.1]; exact q.1, hf _ _ _ e.2 q.2⟩ (ih _ t)
  | obj c fs =>
    simp only [mapO, Option.map_eq_some_iff] at h
    obtain ⟨ys, h1, rfl⟩ := h
    obtain ⟨dx, vs, h2, h3⟩ := r
    refine ⟨dx, vs, h2, ?_⟩
    have h5 := mapD_get h1
    clear h1 h2
    induction h5 generalizing vs with
    | nil => cases h3; exact .nil
    | cons e _ ih => cases h3 with | cons q t => exact .cons ⟨by rw [e.1]; exact q.1, hf _ _ _ e.2 q.2⟩ (ih _ t)
  | _ => simp [mapO] at h
theorem VRs.via {f : Va → Option Va} (hf : ∀ x y v, f x = some y → VR g ι x v → VR g ι2 y v) {xs ys : List Va} {vs : List V} (h1 : Paired (fun x y => f x = some y) xs ys) (h2 : VRs g ι xs vs) : VRs g ι2 ys vs := by
  induction h1 generalizing vs with
  | nil => cases h2; exact .nil
  | cons e _ ih => cases h2 with | cons q t => exact .cons (hf _ _ _ e q) (ih t)
theorem ObR.notTbl' {p : Addr} {o : Ob} (ho : seenO o = true) (h : ObR g ι H p o) : ∀ ps, H p ≠ some (.tbl ps) := fun ps z => by
  cases o with
  | hid => cases ho
  | lst xs => obtain ⟨vs, q, _⟩ := h; rw [q] at z; cases z
  | tup xs => obtain ⟨vs, q, _⟩ := h; rw [q] at z; cases z
  | dic es => obtain ⟨vs, q, _⟩ := h; rw [q] at z; cases z
  | obj c fs => obtain ⟨dx, vs, q, _⟩ := h; rw [q] at z; cases z
  | clo j vs => obtain ⟨c', cl, q, _⟩ := h; rw [q] at z; cases z
/-- the names of some indices -/
def pick (ι : List Addr) (m : List Nat) : List Addr := m.map fun n => ι.getD n 0
theorem pick_get {ι : List Addr} {m : List Nat} {k n : Nat} (h : m[k]? = some n) (hn : n < ι.length) : (pick ι m)[k]? = ι[n]? := by
  unfold pick
  rw [List.getElem?_map, h]
  simp [List.getD, hn]
theorem pick_inv {ι : List Addr} {m : List Nat} {a : Addr} (hm : ∀ n ∈ m, n < ι.length) (h : a ∈ pick ι m) : ∃ n, n ∈ m ∧ ι[n]? = some a := by
  obtain ⟨n, h1, h2⟩ := List.mem_map.mp h
  refine ⟨n, h1, ?_⟩
  have := hm n h1
  rw [← h2]; simp [List.getD, this]
theorem nd_at {ι : List Addr} (nd : ι.Nodup) {i j : Nat} {a : Addr} (h1 : ι[i]? = some a) (h2 : ι[j]? = some a) : i = j := by
  obtain ⟨p, hp⟩ := List.getElem?_eq_some_iff.mp h1
  obtain ⟨q, hq⟩ := List.getElem?_eq_some_iff.mp h2
  exact (List.getElem_inj nd).mp (hp.trans hq.symm)
theorem pick_nd {ι : List Addr} {m : List Nat} (nd : ι.Nodup) (hm : m.Nodup) (hr : ∀ n ∈ m, n < ι.length) : (pick ι m).Nodup := by
  unfold pick
  rw [List.Nodup, List.pairwise_map]
  refine (List.Pairwise.and_mem.mp hm).imp fun {a b} h e => ?_
  have ha := hr a h.1; have hb := hr b h.2.1
  simp only [List.getD, List.getElem?_eq_getElem ha, List.getElem?_eq_getElem hb, Option.getD_some] at e
  exact h.2.2 ((List.getElem_inj nd).mp e)
theorem dnV_ok {m : List Nat} (hr : ∀ n ∈ m, n < ι.length) (x y : Va) (v : V) (h : dnV m x = some y) (r : VR g ι x v) : VR g (pick ι m) y v := by
  unfold dnV at h
  split at h
  · split at h
    · rename_i n _ k e
      cases h
      obtain ⟨a, h1, h2⟩ := r
      have hg := idx_get e
      exact ⟨a, by rw [pick_get hg (hr n (List.mem_of_getElem? hg))]; exact h1, h2⟩
    · cases h
  · rename_i hx
    cases h
    cases x with
    | ref n => exact absurd rfl (hx n)
    | _ => exact r
theorem gc_up {m : List Nat} {S' S3 S4 : Sto} {vs vs4 : List Va} {ι3 : List Addr} {H3 : Hp} (s : Sim g ι S H) (nd : m.Nodup) (hr : ∀ n ∈ m, n < ι.length) (hS : S.all seenO = true) (e : Ext (pick ι m) H ι3 H3) (s3 : Sim g ι3 S3 H3) (h : gcUp S m vs S3 = some (vs4, S4)) :
    ∃ ι4, Ext ι H ι4 H3 ∧ Sim g ι4 S4 H3 ∧ ∀ us, VRs g ι3 vs us → VRs g ι4 vs4 us := by
  unfold gcUp at h
  dsimp only at h
  generalize hkp : fromN m.length (reach S3 100000 (upto 0 m.length ++ refVs vs) []) = kp at h
  have hge : ∀ k ∈ kp, m.length ≤ k := fun k hk => fromN_le (by rw [hkp]; exact hk)
  split at h
  · rename_i hnd
    have ndk := ndB_nd hnd
    split at h
    · rename_i ws os ns e1 e2 e3
      rw [fL_eq] at h
      have hw : ws = vs4 := (Prod.mk.inj (Option.some.inj h)).1
      have h4 : wb S m os ++ ns = S4 := (Prod.mk.inj (Option.some.inj h)).2
      subst hw h4
      have p2 := mapAt_get e2
      have p3 := mapAt_get e3
      have lm : m.length = os.length := by rw [← Paired.len p2, upto_len]
      have hr3 : ∀ k ∈ kp, k < ι3.length := fun k hk => by
        obtain ⟨i, hi⟩ := List.mem_iff_getElem?.mp hk
        obtain ⟨o', _, o, h1, _⟩ := Paired.get p3 hi
        rw [s3.len]; exact (List.getElem?_eq_some_iff.mp h1).1
      have lp : (pick ι m).length = m.length := by simp [pick]
      have at3 : ∀ k n, m[k]? = some n → ι3[k]? = ι[n]? := fun k n hk => by
        have hn := hr n (List.mem_of_getElem? hk)
        have h1 := pick_get hk hn
        rw [List.getElem?_eq_getElem hn] at h1 ⊢
        exact e.le _ _ h1
      -- an address of ours beside the picked ones
      have out : ∀ n a, ι[n]? = some a → n ∉ m → a ∉ pick ι m := fun n a hn hm z => by
        obtain ⟨n', h1, h2⟩ := pick_inv hr z
        exact hm (nd_at s.nd hn h2 ▸ h1)
      have stay : ∀ n a, ι[n]? = some a → n ∉ m → a ∉ ι3 ∧ H3 a = H a := fun n a hn hm => by
        have hl : n < S.length := by rw [← s.len]; exact (List.getElem?_eq_some_iff.mp hn).1
        have hob := s.ob n S[n] a (by simp [hl]) hn
        have hs : seenO S[n] = true := List.all_eq_true.mp hS _ (List.getElem_mem hl)
        exact e.fr a (out n a hn hm) hob.there (hob.notTbl' hs)
      have val : ∀ x y v, upV m kp S.length x = some y → VR g ι3 x v → VR g (ι ++ pick ι3 kp) y v := fun x y v hx r => by
        unfold upV at hx
        split at hx
        · rename_i n
          obtain ⟨a, h1, h2⟩ := r
          split at hx
          · rename_i k hk
            cases hx
            have := at3 _ _ hk
            rw [h1] at this
            exact ⟨a, by rw [List.getElem?_append_left (hr k (List.mem_of_getElem? hk))]; exact this.symm, h2⟩
          · split at hx
            · rename_i j hj
              cases hx
              have hg := idx_get hj
              refine ⟨a, ?_, h2⟩
              rw [← s.len, List.getElem?_append_right (Nat.le_add_right _ _), Nat.add_sub_cancel_left, pick_get hg (hr3 n (List.mem_of_getElem? hg))]
              exact h1
            · cases hx
        · rename_i hx'
          cases hx
          cases x with
          | ref n => exact absurd rfl (hx' n)
          | _ => exact r
      refine ⟨ι ++ pick ι3 kp, ⟨fun n a hn => by rw [List.getElem?_append_left (List.getElem?_eq_some_iff.mp hn).1]; exact hn, fun a h1 h2 h3 => ?_, e.fz⟩, ⟨?_, ?_, fun n o a e4 e5 => ?_, fun H2 f => s.sc H2 (e.fz.trans f), s3.tb⟩, fun us r => VRs.via val (mapVs_get e1) r⟩
      · have hp : a ∉ pick ι m := fun z => by
          obtain ⟨n, _, hn⟩ := pick_inv hr z
          exact h1 (List.mem_of_getElem? hn)
        obtain ⟨q1, q2⟩ := e.fr a hp h2 h3
        refine ⟨fun z => ?_, q2⟩
        rcases List.mem_append.mp z with z | z
        · exact h1 z
        · obtain ⟨n, _, hn⟩ := pick_inv hr3 z
          exact q1 (List.mem_of_getElem? hn)
      · rw [List.nodup_append]
        refine ⟨s.nd, pick_nd s3.nd ndk hr3, fun a ha b hb hab => ?_⟩
        subst hab
        obtain ⟨k, hk1, hk2⟩ := pick_inv hr3 hb
        obtain ⟨n, hn⟩ := List.mem_iff_getElem?.mp ha
        by_cases hm : n ∈ m
        · obtain ⟨i, hi⟩ := List.mem_iff_getElem?.mp hm
          have h1 := at3 i n hi
          rw [hn] at h1
          have := nd_at s3.nd h1 hk2
          have h2 := (List.getElem?_eq_some_iff.mp hi).1
          have h3 := hge k hk1
          omega
        · exact (stay n a hn hm).1 (List.mem_of_getElem? hk2)
      · rw [List.length_append, List.length_append, wb_len, s.len, ← Paired.len p3]; simp [pick]
      · by_cases hn : n < S.length
        · rw [List.getElem?_append_left (by rw [wb_len]; exact hn)] at e4
          rw [List.getElem?_append_left (by rw [s.len]; exact hn)] at e5
          rcases wb_get S m os n o lm e4 with ⟨k, h1, h2⟩ | ⟨h1, h2⟩
          · obtain ⟨j, h3, o0, h5, h6⟩ := Paired.getR p2 h2
            have hk : k < m.length := (List.getElem?_eq_some_iff.mp h1).1
            rw [upto_get 0 _ k hk, Nat.zero_add] at h3
            cases h3
            have h7 := at3 k n h1
            rw [e5] at h7
            exact mapO_ok val h6 (s3.ob k o0 a h5 h7)
          · have q := stay n a e5 h2
            exact ((s.ob n o a h1 e5).mono (fun i b hi => by rw [List.getElem?_append_left (List.getElem?_eq_some_iff.mp hi).1]; exact hi)).heap q.2 e.fz.ex
        · rw [List.getElem?_append_right (by rw [wb_len]; omega), wb_len] at e4
          rw [List.getElem?_append_right (by rw [s.len]; omega), s.len] at e5
          obtain ⟨k, h3, o0, h5, h6⟩ := Paired.getR p3 e4
          rw [pick_get h3 (hr3 k (List.mem_of_getElem? h3))] at e5
          exact mapO_ok val h6 (s3.ob k o0 a h5 e5)
    · cases h
  · cases h
theorem gc_sp {f : Fn} {vs : List V} {Q : VK} (h : iSpX g (gcF f) vs H Q E) : iSpX g f vs H Q E := by
  obtain ⟨ι, S, xs, s, r, h⟩ := h
  unfold gcF at h
  dsimp only at h
  generalize reach S 100000 (refVs xs) [] = m at h
  split at h
  · rename_i hc
    obtain ⟨hnd, hS⟩ := hc
    have nd := ndB_nd hnd
    split at h
    · rename_i xs' S' ex eS
      have pS := mapAt_get eS
      have hr : ∀ n ∈ m, n < ι.length := fun n hn => by
        obtain ⟨i, hi⟩ := List.mem_iff_getElem?.mp hn
        obtain ⟨o', _, o, h1, _⟩ := Paired.get pS hi
        rw [s.len]; exact (List.getElem?_eq_some_iff.mp h1).1
      have s1 : Sim g (pick ι m) S' H := by
        refine ⟨pick_nd s.nd nd hr, by rw [← Paired.len pS]; simp [pick], fun k o' a e1 e2 => ?_, s.sc, s.tb⟩
        obtain ⟨n, hn, o, h1, h2⟩ := Paired.getR pS e1
        rw [pick_get hn (hr n (List.mem_of_getElem? hn))] at e2
        exact mapO_ok (dnV_ok hr) h2 (s.ob n o a h1 e2)
      refine ⟨pick ι m, S', xs', s1, VRs.via (dnV_ok hr) (mapVs_get ex) r, ?_⟩
      cases hf : f xs' S' with
      | ok v S3 =>
        rw [hf] at h
        dsimp only at h
        split at h
        · rename_i v4 S4 hu
          intro ι3 H3 e3 s3 u vu
          obtain ⟨ι4, q1, q2, q3⟩ := gc_up s nd hr hS e3 s3 hu (S' := S')
          have q := q3 [u] (.cons vu .nil)
          cases q with
          | cons q _ => exact h ι4 H3 q1 q2 u q
        · exact h.elim
      | ex c S3 =>
        rw [hf] at h
        dsimp only at h
        split at h
        · rename_i v4 S4 hu
          intro ι3 H3 e3 s3
          obtain ⟨ι4, q1, q2, q3⟩ := gc_up s nd hr hS e3 s3 hu (S' := S')
          exact h ι4 H3 q1 q2
        · exact h.elim
      | no => rw [hf] at h; exact h.elim
    · exact h.elim
  · exact h.elim
/-- a def's promise, told of what its arguments reach -/
theorem gc_ok {P : Program} {w : World} {K : PySem.W.Frag} {mg : Str → Option Value} {base : Heap} {CX : CXT} {k : Nat} {a : Addr} {fd : FuncData} {ps : List Str} {f : Fn} (h : FnOk P w K mg base CX k a fd ps (iSpX g f)) : FnOk P w K mg base CX k a fd ps (iSpX g (gcF f)) :=
  ⟨fun vs H Q E q => h.len vs H Q E (gc_sp q), fun A outer s H args us vs Q E hr he hb hv q => h.run A outer s H args us vs Q E hr he hb hv (gc_sp q)⟩
end
end IL

end
section
set_option Elab.async false
set_option linter.all false
set_option maxRecDepth 100000
set_option maxHeartbeats 4000000
namespace IL
open PySem L2
/-- 0 thing, 1 least -/
noncomputable def i_is_number : Fn := gcF (mkFn 2 2 (sRet (iAndV (iCB fIsiB (iCons (iVar 0) (iCons (iC (.ty "int")) iNil))) (iAndV (iNotV (iCB fIsiB (iCons (iVar 0) (iCons (iC (.ty "bool")) iNil)))) (iOp fGeB (iVar 0) (iVar 1))))))

/-- 0 thing, 1 people, 2 one -/
noncomputable def i_is_task : Fn := gcF (mkFn 2 3 (sSeq (sIf (iOr (iNot (iB (iCB fIsiB (iCons (iVar 0) (iCons (iC (.ty "tuple")) iNil))))) (iOr (iB (iOp fNe (iCB fLen (iCons (iVar 0) iNil)) (iC (.int 2)))) (iNot (iB (iCB fAll (iCons (iLc (itTup (iVar 0)) (tgName 2) iYes (iCall i_is_number (iCons (iVar 2) (iCons (iC (.int 0)) iNil))) [2]) iNil)))))) (sRet (iC (.bl false))) sNext)
  (sRet (iChain fLtB fLtB (iOp fIx (iVar 0) (iC (.int 0))) (iOp fIx (iVar 0) (iC (.int 1))) (iVar 1)))))

/-- 0 people, 1 tasks, 2 task -/
noncomputable def i_check_tasks : Fn := gcF (mkFn 2 3 (sSeq (sIf (iOr (iNot (iB (iCall i_is_number (iCons (iVar 0) (iCons (iC (.int 1)) iNil))))) (iB (iOp fGtB (iVar 0) (iC (.int 60))))) (sRaise "BadPeople") sNext)
  (sIf (iOr (iNot (iB (iCB fIsiB (iCons (iVar 1) (iCons (iC (.ty "list")) iNil))))) (iNot (iB (iCB fAll (iCons (iLc (itList (iVar 1)) (tgName 2) iYes (iCall i_is_task (iCons (iVar 2) (iCons (iVar 0) iNil))) [2]) iNil))))) (sRaise "BadTasks") sNext)))

/-- 0 people, 1 limits, 2 one -/
noncomputable def i_check_limits : Fn := gcF (mkFn 2 3 (sIf (iOr (iNot (iB (iCB fIsiB (iCons (iVar 1) (iCons (iC (.ty "list")) iNil))))) (iOr (iB (iOp fNe (iCB fLen (iCons (iVar 1) iNil)) (iVar 0))) (iNot (iB (iCB fAll (iCons (iLc (itList (iVar 1)) (tgName 2) iYes (iCall i_is_number (iCons (iVar 2) (iCons (iC (.int 0)) iNil))) [2]) iNil)))))) (sRaise "BadLimits") sNext))

/-- 0 tasks, 1 sharing, 2 one, 3 task, 4 who -/
noncomputable def i_is_sharing : Fn := gcF (mkFn 2 5 (sSeq (sIf (iOr (iNot (iB (iCB fIsiB (iCons (iVar 1) (iCons (iC (.ty "list")) iNil))))) (iOr (iB (iOp fNe (iCB fLen (iCons (iVar 1) iNil)) (iCB fLen (iCons (iVar 0) iNil)))) (iNot (iB (iCB fAll (iCons (iLc (itList (iVar 1)) (tgName 2) iYes (iCall i_is_number (iCons (iVar 2) (iCons (iC (.int 0)) iNil))) [2]) iNil)))))) (sRet (iC (.bl false))) sNext)
  (sRet (iCB fAll (iCons (iLc (itZip (iVar 0) (iVar 1)) (tgTupN 2 [(tgName 3), (tgName 4)]) iYes (iOp (fIn false) (iVar 4) (iVar 3)) [3, 4]) iNil)))))

/-- 0 tasks, 1 sharing -/
noncomputable def i_check_sharing : Fn := gcF (mkFn 2 2 (sIf (iNot (iB (iCall i_is_sharing (iCons (iVar 0) (iCons (iVar 1) iNil))))) (sRaise "BadSharing") sNext))

/-- 0 people, 1 sharing, 2 found, 3 who -/
noncomputable def i_loads_of : Fn := gcF (mkFn 2 4 (sSeq (sAsg (iOp fMul (iLst (iCons (iC (.int 0)) iNil)) (iVar 0)) (tgName 2))
  (sSeq (sFor (itList (iVar 1)) (tgName 3) (sAugS (iVar 2) (iVar 3) (iC (.int 1))))
  (sRet (iVar 2)))))

/-- 0 people, 1 tasks, 2 sharing -/
noncomputable def i_loads : Fn := gcF (mkFn 3 3 (sSeq (sExpr (iCall i_check_tasks (iCons (iVar 0) (iCons (iVar 1) iNil))))
  (sSeq (sExpr (iCall i_check_sharing (iCons (iVar 1) (iCons (iVar 2) iNil))))
  (sRet (iCall i_loads_of (iCons (iVar 0) (iCons (iVar 2) iNil)))))))

/-- 0 task, 1 who -/
noncomputable def i_second_of : Fn := gcF (mkFn 2 2 (sRet (iOp fSub (iOp fAdd (iOp fIx (iVar 0) (iC (.int 0))) (iOp fIx (iVar 0) (iC (.int 1)))) (iVar 1))))

/-- 0 tasks, 1 some, 2 task -/
noncomputable def i_among : Fn := gcF (mkFn 2 3 (sRet (iCB fLen (iCons (iLc (itList (iVar 0)) (tgName 2) (iAnd (iB (iOp (fIn false) (iOp fIx (iVar 2) (iC (.int 0))) (iVar 1))) (iB (iOp (fIn false) (iOp fIx (iVar 2) (iC (.int 1))) (iVar 1)))) (iVar 2) [2]) iNil))))

/-- 0 some, 1 people, 2 one -/
noncomputable def i_are_people : Fn := gcF (mkFn 2 3 (sRet (iAndV (iOp fEq (iVar 0) (iCB fSortedSet (iCons (iVar 0) iNil))) (iCB fAll (iCons (iLc (itList (iVar 0)) (tgName 2) iYes (iChain fLeB fLtB (iC (.int 0)) (iVar 2) (iVar 1)) [2]) iNil)))))

/-- 0 self, 1 sharing -/
noncomputable def i_Shared_init : Fn := gcF (mkFn 2 2 (sFldSet (iVar 0) "sharing" (iCB fList (iCons (iVar 1) iNil))))

/-- 0 self, 1 people, 2 tasks, 3 limits, 4 load, 5 limit -/
noncomputable def i_Shared_shows : Fn := gcF (mkFn 4 6 (sSeq (sIf (iNot (iB (iCall i_is_sharing (iCons (iVar 2) (iCons (iFld (iVar 0) "sharing") iNil))))) (sRet (iC (.bl false))) sNext)
  (sRet (iCB fAll (iCons (iLc (itZip (iCall i_loads_of (iCons (iVar 1) (iCons (iFld (iVar 0) "sharing") iNil))) (iVar 3)) (tgTupN 2 [(tgName 4), (tgName 5)]) iYes (iOp fLeB (iVar 4) (iVar 5)) [4, 5]) iNil)))))

/-- 0 self, 1 some -/
noncomputable def i_Crowd_init : Fn := gcF (mkFn 2 2 (sFldSet (iVar 0) "some" (iCB fList (iCons (iVar 1) iNil))))

/-- 0 self, 1 people, 2 tasks, 3 limits, 4 one -/
noncomputable def i_Crowd_shows : Fn := gcF (mkFn 4 5 (sSeq (sIf (iNot (iB (iCall i_are_people (iCons (iFld (iVar 0) "some") (iCons (iVar 1) iNil))))) (sRet (iC (.bl false))) sNext)
  (sRet (iOp fGtB (iCall i_among (iCons (iVar 2) (iCons (iFld (iVar 0) "some") iNil))) (iCB fSum (iCons (iLc (itList (iFld (iVar 0) "some")) (tgName 4) iYes (iOp fIx (iVar 3) (iVar 4)) [4]) iNil))))))

/-- 0 self, 1 sharing, 2 some -/
noncomputable def i_Even_init : Fn := gcF (mkFn 3 3 (sSeq (sFldSet (iVar 0) "sharing" (iCB fList (iCons (iVar 1) iNil)))
  (sFldSet (iVar 0) "some" (iCB fList (iCons (iVar 2) iNil)))))

/-- 0 self, 1 people, 2 tasks, 3 most -/
noncomputable def i_Even_shows : Fn := gcF (mkFn 3 4 (sSeq (sIf (iOr (iNot (iB (iCall i_is_sharing (iCons (iVar 2) (iCons (iFld (iVar 0) "sharing") iNil))))) (iNot (iB (iCall i_are_people (iCons (iFld (iVar 0) "some") (iCons (iVar 1) iNil)))))) (sRet (iC (.bl false))) sNext)
  (sSeq (sIf (iB (iOp fEq (iVar 2) (iLst iNil))) (sRet (iOp fEq (iFld (iVar 0) "some") (iLst iNil))) sNext)
  (sSeq (sAsg (iCB fMax (iCons (iCall i_loads_of (iCons (iVar 1) (iCons (iFld (iVar 0) "sharing") iNil))) iNil)) (tgName 3))
  (sRet (iOp fGtB (iCall i_among (iCons (iVar 2) (iCons (iFld (iVar 0) "some") iNil))) (iOp fMul (iOp fSub (iVar 3) (iC (.int 1))) (iCB fLen (iCons (iFld (iVar 0) "some") iNil)))))))))

/-- 0 self, 1 tasks -/
noncomputable def i_Chain_init : Fn := gcF (mkFn 2 2 (sFldSet (iVar 0) "tasks" (iCB fList (iCons (iVar 1) iNil))))

/-- 0 self, 1 people, 2 tasks, 3 sharing, 4 one, 5 other, 6 came, 7 at -/
noncomputable def i_Chain_shows : Fn := gcF (mkFn 6 8 (sSeq (sAsg (iLst (iCons (iVar 4) iNil)) (tgName 6))
  (sSeq (sFor (itList (iFld (iVar 0) "tasks")) (tgName 7) (sSeq (sIf (iOr (iNot (iB (iChain fLeB fLtB (iC (.int 0)) (iVar 7) (iCB fLen (iCons (iVar 2) iNil))))) (iB (iOp fNe (iOp fIx (iVar 3) (iVar 7)) (iOp fIx (iVar 6) (iUn fNegB (iC (.int 1))))))) (sRet (iC (.bl false))) sNext)
  (sExpr (iBM mAppend (iVar 6) (iCons (iCall i_second_of (iCons (iOp fIx (iVar 2) (iVar 7)) (iCons (iOp fIx (iVar 6) (iUn fNegB (iC (.int 1)))) iNil))) iNil)))))
  (sRet (iAndV (iOp fEq (iOp fIx (iVar 6) (iUn fNegB (iC (.int 1)))) (iVar 5)) (iOp fEq (iCB fLenSet (iCons (iVar 6) iNil)) (iCB fLen (iCons (iVar 6) iNil))))))))

/-- 0 self, 1 some -/
noncomputable def i_Side_init : Fn := gcF (mkFn 2 2 (sFldSet (iVar 0) "some" (iCB fList (iCons (iVar 1) iNil))))

/-- 0 self, 1 people, 2 tasks, 3 sharing, 4 one, 5 other, 6 out, 7 at, 8 who -/
noncomputable def i_Side_shows : Fn := gcF (mkFn 6 9 (sSeq (sIf (iOr (iNot (iB (iCall i_are_people (iCons (iFld (iVar 0) "some") (iCons (iVar 1) iNil))))) (iOr (iB (iOp (fIn true) (iVar 4) (iFld (iVar 0) "some"))) (iB (iOp (fIn false) (iVar 5) (iFld (iVar 0) "some"))))) (sRet (iC (.bl false))) sNext)
  (sSeq (sAsg (iLc (itEnum (iVar 3)) (tgTupN 2 [(tgName 7), (tgName 8)]) (iAnd (iB (iOp (fIn false) (iVar 8) (iFld (iVar 0) "some"))) (iB (iOp (fIn true) (iCall i_second_of (iCons (iOp fIx (iVar 2) (iVar 7)) (iCons (iVar 8) iNil))) (iFld (iVar 0) "some")))) (iVar 7) [7, 8]) (tgName 6))
  (sRet (iOp fEq (iVar 6) (iLst iNil))))))

/-- 0 tasks, 1 sharing, 2 begins, 3 came, 4 one, 5 waiting, 6 at, 7 here, 8 task, 9 who -/
noncomputable def i_came_from : Fn := gcF (mkFn 3 10 (sSeq (sAsg iDNew (tgName 3))
  (sSeq (sFor (itList (iVar 2)) (tgName 4) (sDSet (iVar 3) (iVar 4) (iUn fNegB (iC (.int 1)))))
  (sSeq (sAsg (iCB fList (iCons (iVar 2) iNil)) (tgName 5))
  (sSeq (sAsg (iC (.int 0)) (tgName 6))
  (sSeq (sWhile (iB (iOp fLtB (iVar 6) (iCB fLen (iCons (iVar 5) iNil)))) (sSeq (sAsg (iOp fIx (iVar 5) (iVar 6)) (tgName 7))
  (sSeq (sAug 6 (iC (.int 1)))
  (sFor (itEnum (iVar 1)) (tgTupN 2 [(tgName 8), (tgName 9)]) (sIf (iAnd (iB (iOp fEq (iVar 9) (iVar 7))) (iB (iDIn true (iCall i_second_of (iCons (iOp fIx (iVar 0) (iVar 8)) (iCons (iVar 7) iNil))) (iVar 3)))) (sSeq (sDSet (iVar 3) (iCall i_second_of (iCons (iOp fIx (iVar 0) (iVar 8)) (iCons (iVar 7) iNil))) (iVar 8))
  (sExpr (iBM mAppend (iVar 5) (iCons (iCall i_second_of (iCons (iOp fIx (iVar 0) (iVar 8)) (iCons (iVar 7) iNil))) iNil)))) sNext)))))
  (sRet (iVar 3))))))))

/-- 0 tasks, 1 came, 2 person, 3 found -/
noncomputable def i_chain_to : Fn := gcF (mkFn 3 4 (sSeq (sAsg (iLst iNil) (tgName 3))
  (sSeq (sWhile (iB (iOp fGeB (iDGet (iVar 1) (iVar 2)) (iC (.int 0)))) (sSeq (sExpr (iBM mAppend (iVar 3) (iCons (iDGet (iVar 1) (iVar 2)) iNil)))
  (sAsg (iCall i_second_of (iCons (iOp fIx (iVar 0) (iDGet (iVar 1) (iVar 2))) (iCons (iVar 2) iNil))) (tgName 2))))
  (sRet (iRev (iVar 3))))))

/-- 0 people, 1 tasks, 2 limits, 3 sharing, 4 loads, 5 task, 6 came, 7 free, 8 chain, 9 first, 10 at, 11 one -/
noncomputable def i_share : Fn := gcF (mkFn 3 12 (sSeq (sAsg (iLst iNil) (tgName 3))
  (sSeq (sAsg (iOp fMul (iLst (iCons (iC (.int 0)) iNil)) (iVar 0)) (tgName 4))
  (sSeq (sFor (itList (iVar 1)) (tgName 5) (sSeq (sAsg (iCall i_came_from (iCons (iVar 1) (iCons (iVar 3) (iCons (iCB fList (iCons (iVar 5) iNil)) iNil)))) (tgName 6))
  (sSeq (sAsg (iLcK 6 (tgName 11) (iB (iOp fLtB (iOp fIx (iVar 4) (iVar 11)) (iOp fIx (iVar 2) (iVar 11)))) (iVar 11) [11]) (tgName 7))
  (sSeq (sIf (iB (iOp fEq (iVar 7) (iLst iNil))) (sRet (IL.iTup (iCons (iVar 3) (iCons (iCB fSortedD (iCons (iVar 6) iNil)) iNil)))) sNext)
  (sSeq (sAsg (iCall i_chain_to (iCons (iVar 1) (iCons (iVar 6) (iCons (iOp fIx (iVar 7) (iC (.int 0))) iNil)))) (tgName 8))
  (sSeq (sAsg (iIf (iB (iOp fNe (iVar 8) (iLst iNil))) (iOp fIx (iVar 3) (iOp fIx (iVar 8) (iC (.int 0)))) (iOp fIx (iVar 7) (iC (.int 0)))) (tgName 9))
  (sSeq (sFor (itList (iVar 8)) (tgName 10) (sAsg (iCall i_second_of (iCons (iOp fIx (iVar 1) (iVar 10)) (iCons (iOp fIx (iVar 3) (iVar 10)) iNil))) (tgSub (iVar 3) (iVar 10))))
  (sSeq (sExpr (iBM mAppend (iVar 3) (iCons (iVar 9) iNil)))
  (sAugS (iVar 4) (iOp fIx (iVar 7) (iC (.int 0))) (iC (.int 1)))))))))))
  (sRet (IL.iTup (iCons (iVar 3) (iCons (iLst iNil) iNil))))))))

/-- 0 people, 1 tasks, 2 limits, 3 sharing, 4 some -/
noncomputable def i_shared : Fn := gcF (mkFn 3 5 (sSeq (sExpr (iCall i_check_tasks (iCons (iVar 0) (iCons (iVar 1) iNil))))
  (sSeq (sExpr (iCall i_check_limits (iCons (iVar 0) (iCons (iVar 2) iNil))))
  (sSeq (sAsg (iCall i_share (iCons (iVar 0) (iCons (iVar 1) (iCons (iVar 2) iNil)))) (tgTupN 2 [(tgName 3), (tgName 4)]))
  (sRet (iIf (iB (iOp fEq (iVar 4) (iLst iNil))) (iMake "Shared" i_Shared_init (iCons (iVar 3) iNil)) (iMake "Crowd" i_Crowd_init (iCons (iVar 4) iNil))))))))

/-- 0 people, 1 tasks, 2 most, 3 crowd, 4 sharing, 5 some -/
noncomputable def i_evenest : Fn := gcF (mkFn 2 6 (sSeq (sExpr (iCall i_check_tasks (iCons (iVar 0) (iCons (iVar 1) iNil))))
  (sSeq (sAsg (iC (.int 0)) (tgName 2))
  (sSeq (sAsg (iLst iNil) (tgName 3))
  (sSeq (sAsg (iCall i_share (iCons (iVar 0) (iCons (iVar 1) (iCons (iOp fMul (iLst (iCons (iC (.int 0)) iNil)) (iVar 0)) iNil)))) (tgTupN 2 [(tgName 4), (tgName 5)]))
  (sSeq (sWhile (iB (iOp fNe (iVar 5) (iLst iNil))) (sSeq (sAsg (iVar 5) (tgName 3))
  (sSeq (sAug 2 (iC (.int 1)))
  (sAsg (iCall i_share (iCons (iVar 0) (iCons (iVar 1) (iCons (iOp fMul (iLst (iCons (iVar 2) iNil)) (iVar 0)) iNil)))) (tgTupN 2 [(tgName 4), (tgName 5)])))))
  (sRet (iMake "Even" i_Even_init (iCons (iVar 4) (iCons (iVar 3) iNil))))))))))

/-- 0 people, 1 tasks, 2 sharing, 3 one, 4 other, 5 person, 6 came -/
noncomputable def i_passed : Fn := gcF (mkFn 5 7 (sSeq (sExpr (iCall i_check_tasks (iCons (iVar 0) (iCons (iVar 1) iNil))))
  (sSeq (sExpr (iCall i_check_sharing (iCons (iVar 1) (iCons (iVar 2) iNil))))
  (sSeq (sFor (itTup (IL.iTup (iCons (iVar 3) (iCons (iVar 4) iNil)))) (tgName 5) (sIf (iOr (iNot (iB (iCall i_is_number (iCons (iVar 5) (iCons (iC (.int 0)) iNil))))) (iB (iOp fGeB (iVar 5) (iVar 0)))) (sRaise "BadPerson") sNext))
  (sSeq (sIf (iB (iOp fEq (iVar 3) (iVar 4))) (sRaise "BadPerson") sNext)
  (sSeq (sAsg (iCall i_came_from (iCons (iVar 1) (iCons (iVar 2) (iCons (iLst (iCons (iVar 3) iNil)) iNil)))) (tgName 6))
  (sSeq (sIf (iB (iDIn true (iVar 4) (iVar 6))) (sRet (iMake "Side" i_Side_init (iCons (iCB fSortedD (iCons (iVar 6) iNil)) iNil))) sNext)
  (sRet (iMake "Chain" i_Chain_init (iCons (iCall i_chain_to (iCons (iVar 1) (iCons (iVar 6) (iCons (iVar 4) iNil)))) iNil))))))))))

/-- 0 person, 1 giving, 2 another, 3 found, 4 way, 5 here, 6 met, 7 at, 8 first -/
noncomputable def i_rings_from : Fn := gcF (mkFn 3 9 (sSeq (sAsg (iLst iNil) (tgName 3))
  (sSeq (sAsg (iLst iNil) (tgName 4))
  (sSeq (sAsg (iVar 0) (tgName 5))
  (sSeq (sAsg (iLst (iCons (iVar 0) iNil)) (tgName 6))
  (sSeq (sWhile (iOr (iB (iOp fNe (iOp fIx (iVar 1) (iVar 5)) (iLst iNil))) (iB (iOp fNe (iVar 4) (iLst iNil)))) (sSeq (sAsg (iBM mPop (iOp fIx (iVar 1) (iVar 5)) iNil) (tgName 7))
  (sSeq (sExpr (iBM mAppend (iVar 4) (iCons (iVar 7) iNil)))
  (sSeq (sAsg (iOp fIx (iVar 2) (iVar 7)) (tgName 5))
  (sIf (iB (iOp (fIn false) (iVar 5) (iVar 6))) (sSeq (sAsg (iBM mIndex (iVar 6) (iCons (iVar 5) iNil)) (tgName 8))
  (sSeq (sExpr (iBM mAppend (iVar 3) (iCons (iSl (iVar 4) (iPart (iVar 8)) iNoPart) iNil)))
  (sSeq (sAsg (iSl (iVar 4) iNoPart (iPart (iVar 8))) (tgName 4))
  (sAsg (iSl (iVar 6) iNoPart (iPart (iOp fAdd (iVar 8) (iC (.int 1))))) (tgName 6))))) (sExpr (iBM mAppend (iVar 6) (iCons (iVar 5) iNil))))))))
  (sRet (iVar 3))))))))

/-- 0 people, 1 tasks, 2 sharing, 3 another, 4 giving, 5 at, 6 who, 7 found, 8 person -/
noncomputable def i_rings : Fn := gcF (mkFn 4 9 (sSeq (sExpr (iCall i_check_tasks (iCons (iVar 0) (iCons (iVar 1) iNil))))
  (sSeq (sExpr (iCall i_check_sharing (iCons (iVar 1) (iCons (iVar 2) iNil))))
  (sSeq (sExpr (iCall i_check_sharing (iCons (iVar 1) (iCons (iVar 3) iNil))))
  (sSeq (sIf (iB (iOp fNe (iCall i_loads_of (iCons (iVar 0) (iCons (iVar 2) iNil))) (iCall i_loads_of (iCons (iVar 0) (iCons (iVar 3) iNil))))) (sRaise "Unlike") sNext)
  (sSeq (sAsg (iLc (itRng (iVar 0)) (tgName 8) iYes (iLst iNil) [8]) (tgName 4))
  (sSeq (sFor (itEnum (iVar 2)) (tgTupN 2 [(tgName 5), (tgName 6)]) (sIf (iB (iOp fNe (iOp fIx (iVar 3) (iVar 5)) (iVar 6))) (sExpr (iBM mAppend (iOp fIx (iVar 4) (iVar 6)) (iCons (iVar 5) iNil))) sNext))
  (sSeq (sAsg (iLst iNil) (tgName 7))
  (sSeq (sFor (itRng (iVar 0)) (tgName 8) (sWhile (iB (iOp fNe (iOp fIx (iVar 4) (iVar 8)) (iLst iNil))) (sExpr (iBM mExtend (iVar 7) (iCons (iCall i_rings_from (iCons (iVar 8) (iCons (iVar 4) (iCons (iVar 3) iNil)))) iNil)))))
  (sRet (iVar 7)))))))))))

/-- 0 _law_one -/
noncomputable def i_lam0 : LFn := mkLam 1 0 1 (iCall i_loads (iCons (iVar 0) (iCons (iC .non) (iCons (iC .non) iNil))))

/-- 0 _law_two -/
noncomputable def i_lam1 : LFn := mkLam 1 0 1 (iCall i_shared (iCons (iC (.int 2)) (iCons (iVar 0) (iCons (iC .non) iNil))))

/-- 0 _law_six, 1 _law_tasks -/
noncomputable def i_lam2 : LFn := mkLam 1 1 2 (iCall i_shared (iCons (iC (.int 2)) (iCons (iVar 1) (iCons (iVar 0) iNil))))

/-- 0 _law_it -/
noncomputable def i_lam3 : LFn := mkLam 1 0 1 (iCall i_evenest (iCons (iC (.int 61)) (iCons (iVar 0) iNil)))

/-- 0 _law_me, 1 _law_tasks -/
noncomputable def i_lam4 : LFn := mkLam 1 1 2 (iCall i_passed (iCons (iC (.int 2)) (iCons (iVar 1) (iCons (iLst (iCons (iC (.int 0)) iNil)) (iCons (iC (.int 0)) (iCons (iC (.int 0)) iNil))))))

/-- 0 _law_us, 1 _law_tasks -/
noncomputable def i_lam5 : LFn := mkLam 1 1 2 (iCall i_passed (iCons (iC (.int 2)) (iCons (iVar 1) (iCons (iLst (iCons (iC (.int 2)) iNil)) (iCons (iVar 0) (iCons (iVar 0) iNil))))))

/-- 0 _law_them, 1 _law_tasks -/
noncomputable def i_lam6 : LFn := mkLam 1 1 2 (iCall i_rings (iCons (iC (.int 2)) (iCons (iVar 1) (iCons (iLst (iCons (iC (.int 0)) iNil)) (iCons (iLst (iCons (iC (.int 1)) iNil)) iNil)))))

/-- 0 _law_her, 1 _law_tasks -/
noncomputable def i_lam7 : LFn := mkLam 1 1 2 (iCall i_rings (iCons (iC (.int 2)) (iCons (iVar 1) (iCons (iVar 0) (iCons (iLst (iCons (iC (.int 0)) iNil)) iNil)))))

/-- 0 _law_him, 1 _law_tasks -/
noncomputable def i_lam8 : LFn := mkLam 1 1 2 (iCall i_rings (iCons (iC (.int 2)) (iCons (iVar 1) (iCons (iLst (iCons (iC (.int 0)) iNil)) (iCons (iVar 0) iNil)))))

/-- 0 _law_it, 1 _law_tasks -/
noncomputable def i_lam9 : LFn := mkLam 1 1 2 (iCall i_passed (iCons (iC (.int 2)) (iCons (iVar 1) (iCons (iLst (iCons (iC (.int 0)) iNil)) (iCons (iC (.int 0)) (iCons (iVar 0) iNil))))))

/-- 0 _law_it, 1 _law_tasks -/
noncomputable def i_lam10 : LFn := mkLam 1 1 2 (iCall i_passed (iCons (iC (.int 2)) (iCons (iVar 1) (iCons (iLst (iCons (iC (.int 0)) iNil)) (iCons (iVar 0) (iCons (iC (.int 0)) iNil))))))

/-- 0 _law_it -/
noncomputable def i_lam11 : LFn := mkLam 1 0 1 (iCall i_evenest (iCons (iC (.int 2)) (iCons (iVar 0) iNil)))

/-- 0 _law_it, 1 _law_tasks -/
noncomputable def i_lam12 : LFn := mkLam 1 1 2 (iCall i_shared (iCons (iC (.int 2)) (iCons (iVar 1) (iCons (iVar 0) iNil))))

/-- 0 _law_it -/
noncomputable def i_lam13 : LFn := mkLam 1 0 1 (iCall i_evenest (iCons (iVar 0) (iCons (iLst iNil) iNil)))

noncomputable def tab__law_word__law_ask : List (Nat × LFn) := [(0, i_lam0), (1, i_lam1), (2, i_lam2), (3, i_lam3), (4, i_lam4), (5, i_lam5), (6, i_lam6), (7, i_lam7), (8, i_lam8), (9, i_lam9), (10, i_lam10), (11, i_lam11), (12, i_lam12), (13, i_lam13)]

/-- 0 _law_ask, 1 _law_thing, 2 error, 3 _law_kinds, 4 _law_words -/
noncomputable def i__law_word : Fn := mkFn 2 5 (sSeq (sTry 2 (sExpr (iCallV 0 tab__law_word__law_ask (iCons (iVar 1) iNil))) (sSeq (sAsg (iLst (iCons (iIsE 2 "BadLimits") (iCons (iIsE 2 "BadPeople") iNil))) (tgName 3))
  (sSeq (sAsg (iOp fAdd (iVar 3) (iLst (iCons (iIsE 2 "BadPerson") (iCons (iIsE 2 "BadSharing") iNil)))) (tgName 3))
  (sSeq (sAsg (iOp fAdd (iVar 3) (iLst (iCons (iIsE 2 "BadTasks") (iCons (iIsE 2 "Unlike") iNil)))) (tgName 3))
  (sSeq (sAsg (iLst (iCons (iC (.str "limits")) (iCons (iC (.str "people")) (iCons (iC (.str "person")) (iCons (iC (.str "sharing")) (iCons (iC (.str "tasks")) (iCons (iC (.str "unlike")) iNil))))))) (tgName 4))
  (sRet (iIf (iB (iOp (fIn false) (iC (.bl true)) (iVar 3))) (iOp fIx (iVar 4) (iBM mIndex (iVar 3) (iCons (iC (.bl true)) iNil))) (iC (.str "other")))))))))
  (sRet (iC (.str "done"))))

/-- 0 _law_far, 1 _law_pair, 2 _law_three, 3 _law_cases, 4 _law_tasks, 5 _law_limits, 6 _law_can, 7 _law_found, 8 _law_told, 9 _law_due -/
noncomputable def i__law_limits_right : Fn := gcF (mkFn 1 10 (sSeq (sPar 1 2 (iCons (iLst (iCons (IL.iTup (iCons (iC (.int 0)) (iCons (iC (.int 1)) iNil))) (iCons (IL.iTup (iCons (iC (.int 0)) (iCons (iC (.int 1)) iNil))) (iCons (IL.iTup (iCons (iC (.int 0)) (iCons (iC (.int 1)) iNil))) iNil)))) (iCons (iLst (iCons (IL.iTup (iCons (iC (.int 0)) (iCons (iC (.int 1)) iNil))) (iCons (IL.iTup (iCons (iC (.int 1)) (iCons (iC (.int 2)) iNil))) (iCons (IL.iTup (iCons (iC (.int 0)) (iCons (iC (.int 2)) iNil))) iNil)))) iNil)))
  (sSeq (sAsg (iLst (iCons (IL.iTup (iCons (iVar 1) (iCons (iLst (iCons (iC (.int 1)) (iCons (iC (.int 2)) iNil))) (iCons (iMake "Shared" i_Shared_init (iCons (iLst (iCons (iC (.int 0)) (iCons (iC (.int 1)) (iCons (iC (.int 1)) iNil)))) iNil)) (iCons (iC (.bl true)) iNil))))) (iCons (IL.iTup (iCons (iVar 1) (iCons (iLst (iCons (iC (.int 1)) (iCons (iC (.int 1)) iNil))) (iCons (iMake "Shared" i_Shared_init (iCons (iLst (iCons (iC (.int 0)) (iCons (iC (.int 1)) (iCons (iC (.int 1)) iNil)))) iNil)) (iCons (iC (.bl false)) iNil))))) iNil))) (tgName 3))
  (sSeq (sAsg (iOp fAdd (iVar 3) (iLst (iCons (IL.iTup (iCons (iVar 1) (iCons (iLst (iCons (iVar 0) (iCons (iC (.int 0)) iNil))) (iCons (iMake "Shared" i_Shared_init (iCons (iLst (iCons (iC (.int 0)) (iCons (iC (.int 0)) (iCons (iC (.int 0)) iNil)))) iNil)) (iCons (iC (.bl true)) iNil))))) (iCons (IL.iTup (iCons (iVar 1) (iCons (iLst (iCons (iC (.int 1)) (iCons (iC (.int 2)) iNil))) (iCons (iMake "Shared" i_Shared_init (iCons (iLst (iCons (iC (.int 0)) (iCons (iC (.int 1)) iNil))) iNil)) (iCons (iC (.bl false)) iNil))))) iNil)))) (tgName 3))
  (sSeq (sAsg (iOp fAdd (iVar 3) (iLst (iCons (IL.iTup (iCons (iVar 1) (iCons (iLst (iCons (iC (.int 1)) (iCons (iC (.int 2)) iNil))) (iCons (iMake "Shared" i_Shared_init (iCons (iLst (iCons (iC (.int 0)) (iCons (iC (.int 1)) (iCons (iC (.int 2)) iNil)))) iNil)) (iCons (iC (.bl false)) iNil))))) (iCons (IL.iTup (iCons (iVar 1) (iCons (iLst (iCons (iC (.int 1)) (iCons (iC (.int 1)) iNil))) (iCons (iMake "Crowd" i_Crowd_init (iCons (iLst (iCons (iC (.int 0)) (iCons (iC (.int 1)) iNil))) iNil)) (iCons (iC (.bl true)) iNil))))) iNil)))) (tgName 3))
  (sSeq (sAsg (iOp fAdd (iVar 3) (iLst (iCons (IL.iTup (iCons (iVar 1) (iCons (iLst (iCons (iC (.int 1)) (iCons (iC (.int 2)) iNil))) (iCons (iMake "Crowd" i_Crowd_init (iCons (iLst (iCons (iC (.int 0)) (iCons (iC (.int 1)) iNil))) iNil)) (iCons (iC (.bl false)) iNil))))) (iCons (IL.iTup (iCons (iVar 1) (iCons (iLst (iCons (iC (.int 0)) (iCons (iC (.int 0)) iNil))) (iCons (iMake "Crowd" i_Crowd_init (iCons (iLst (iCons (iC (.int 0)) iNil)) iNil)) (iCons (iC (.bl false)) iNil))))) iNil)))) (tgName 3))
  (sSeq (sAsg (iOp fAdd (iVar 3) (iLst (iCons (IL.iTup (iCons (iVar 1) (iCons (iLst (iCons (iC (.int 1)) (iCons (iC (.int 1)) iNil))) (iCons (iMake "Crowd" i_Crowd_init (iCons (iLst (iCons (iC (.int 1)) (iCons (iC (.int 0)) iNil))) iNil)) (iCons (iC (.bl false)) iNil))))) (iCons (IL.iTup (iCons (iVar 1) (iCons (iLst (iCons (iC (.int 1)) (iCons (iC (.int 1)) iNil))) (iCons (iMake "Crowd" i_Crowd_init (iCons (iLst (iCons (iC (.int 0)) (iCons (iC (.int 0)) (iCons (iC (.int 1)) iNil)))) iNil)) (iCons (iC (.bl false)) iNil))))) iNil)))) (tgName 3))
  (sSeq (sAsg (iOp fAdd (iVar 3) (iLst (iCons (IL.iTup (iCons (iVar 1) (iCons (iLst (iCons (iC (.int 1)) (iCons (iC (.int 1)) iNil))) (iCons (iMake "Crowd" i_Crowd_init (iCons (iLst (iCons (iC (.int 0)) (iCons (iC (.int 2)) iNil))) iNil)) (iCons (iC (.bl false)) iNil))))) (iCons (IL.iTup (iCons (iVar 1) (iCons (iLst (iCons (iC (.int 1)) (iCons (iC (.int 1)) iNil))) (iCons (iMake "Crowd" i_Crowd_init (iCons (iLst iNil) iNil)) (iCons (iC (.bl false)) iNil))))) iNil)))) (tgName 3))
  (sSeq (sAsg (iOp fAdd (iVar 3) (iLst (iCons (IL.iTup (iCons (iLst iNil) (iCons (iLst (iCons (iC (.int 0)) (iCons (iC (.int 0)) iNil))) (iCons (iMake "Shared" i_Shared_init (iCons (iLst iNil) iNil)) (iCons (iC (.bl true)) iNil))))) iNil))) (tgName 3))
  (sSeq (sIf (iB (iCB fAny (iCons (iLc (itList (iVar 3)) (tgTupN 4 [(tgName 4), (tgName 5), (tgName 8), (tgName 9)]) iYes (iOp fNe (iIs "Shared" (iVar 8) (iMeth "Shared" "shows" i_Shared_shows (iVar 8) (iCons (iC (.int 2)) (iCons (iVar 4) (iCons (iVar 5) iNil)))) (iMeth "Crowd" "shows" i_Crowd_shows (iVar 8) (iCons (iC (.int 2)) (iCons (iVar 4) (iCons (iVar 5) iNil))))) (iVar 9)) [4, 5, 8, 9]) iNil))) (sRet (iC (.bl false))) sNext)
  (sSeq (sIf (iNot (iB (iIs "Shared" (iMake "Crowd" i_Crowd_init (iCons (iLst (iCons (iC (.int 0)) (iCons (iC (.int 1)) (iCons (iC (.int 2)) iNil)))) iNil)) (iMeth "Shared" "shows" i_Shared_shows (iMake "Crowd" i_Crowd_init (iCons (iLst (iCons (iC (.int 0)) (iCons (iC (.int 1)) (iCons (iC (.int 2)) iNil)))) iNil)) (iCons (iC (.int 3)) (iCons (iOp fAdd (iOp fMul (iSl (iVar 2) iNoPart (iPart (iC (.int 1)))) (iC (.int 2))) (iVar 2)) (iCons (iLst (iCons (iC (.int 0)) (iCons (iC (.int 0)) (iCons (iC (.int 1)) iNil)))) iNil)))) (iMeth "Crowd" "shows" i_Crowd_shows (iMake "Crowd" i_Crowd_init (iCons (iLst (iCons (iC (.int 0)) (iCons (iC (.int 1)) (iCons (iC (.int 2)) iNil)))) iNil)) (iCons (iC (.int 3)) (iCons (iOp fAdd (iOp fMul (iSl (iVar 2) iNoPart (iPart (iC (.int 1)))) (iC (.int 2))) (iVar 2)) (iCons (iLst (iCons (iC (.int 0)) (iCons (iC (.int 0)) (iCons (iC (.int 1)) iNil)))) iNil))))))) (sRet (iC (.bl false))) sNext)
  (sSeq (sIf (iB (iIs "Shared" (iMake "Crowd" i_Crowd_init (iCons (iLst (iCons (iC (.int 0)) (iCons (iC (.int 1)) (iCons (iC (.int 2)) iNil)))) iNil)) (iMeth "Shared" "shows" i_Shared_shows (iMake "Crowd" i_Crowd_init (iCons (iLst (iCons (iC (.int 0)) (iCons (iC (.int 1)) (iCons (iC (.int 2)) iNil)))) iNil)) (iCons (iC (.int 3)) (iCons (iVar 2) (iCons (iLst (iCons (iC (.int 1)) (iCons (iC (.int 1)) (iCons (iC (.int 1)) iNil)))) iNil)))) (iMeth "Crowd" "shows" i_Crowd_shows (iMake "Crowd" i_Crowd_init (iCons (iLst (iCons (iC (.int 0)) (iCons (iC (.int 1)) (iCons (iC (.int 2)) iNil)))) iNil)) (iCons (iC (.int 3)) (iCons (iVar 2) (iCons (iLst (iCons (iC (.int 1)) (iCons (iC (.int 1)) (iCons (iC (.int 1)) iNil)))) iNil)))))) (sRet (iC (.bl false))) sNext)
  (sSeq (sIf (iNot (iB (iIs "Shared" (iMake "Crowd" i_Crowd_init (iCons (iLst (iCons (iC (.int 0)) (iCons (iC (.int 1)) (iCons (iC (.int 2)) iNil)))) iNil)) (iMeth "Shared" "shows" i_Shared_shows (iMake "Crowd" i_Crowd_init (iCons (iLst (iCons (iC (.int 0)) (iCons (iC (.int 1)) (iCons (iC (.int 2)) iNil)))) iNil)) (iCons (iC (.int 3)) (iCons (iOp fAdd (iVar 1) (iLst (iCons (IL.iTup (iCons (iC (.int 0)) (iCons (iC (.int 2)) iNil))) iNil))) (iCons (iLst (iCons (iC (.int 1)) (iCons (iC (.int 1)) (iCons (iC (.int 1)) iNil)))) iNil)))) (iMeth "Crowd" "shows" i_Crowd_shows (iMake "Crowd" i_Crowd_init (iCons (iLst (iCons (iC (.int 0)) (iCons (iC (.int 1)) (iCons (iC (.int 2)) iNil)))) iNil)) (iCons (iC (.int 3)) (iCons (iOp fAdd (iVar 1) (iLst (iCons (IL.iTup (iCons (iC (.int 0)) (iCons (iC (.int 2)) iNil))) iNil))) (iCons (iLst (iCons (iC (.int 1)) (iCons (iC (.int 1)) (iCons (iC (.int 1)) iNil)))) iNil))))))) (sRet (iC (.bl false))) sNext)
  (sSeq (sAsg (iLst (iCons (IL.iTup (iCons (iVar 1) (iCons (iLst (iCons (iC (.int 1)) (iCons (iC (.int 2)) iNil))) (iCons (iC (.bl true)) iNil)))) (iCons (IL.iTup (iCons (iVar 1) (iCons (iLst (iCons (iC (.int 1)) (iCons (iC (.int 1)) iNil))) (iCons (iC (.bl false)) iNil)))) (iCons (IL.iTup (iCons (iVar 1) (iCons (iLst (iCons (iVar 0) (iCons (iC (.int 0)) iNil))) (iCons (iC (.bl true)) iNil)))) iNil)))) (tgName 3))
  (sSeq (sAsg (iOp fAdd (iVar 3) (iLst (iCons (IL.iTup (iCons (iVar 1) (iCons (iLst (iCons (iC (.int 0)) (iCons (iC (.int 0)) iNil))) (iCons (iC (.bl false)) iNil)))) (iCons (IL.iTup (iCons (iLst iNil) (iCons (iLst (iCons (iC (.int 0)) (iCons (iC (.int 0)) iNil))) (iCons (iC (.bl true)) iNil)))) iNil)))) (tgName 3))
  (sSeq (sFor (itList (iVar 3)) (tgTupN 3 [(tgName 4), (tgName 5), (tgName 6)]) (sSeq (sAsg (iCall i_shared (iCons (iC (.int 2)) (iCons (iVar 4) (iCons (iVar 5) iNil)))) (tgName 7))
  (sIf (iOr (iB (iOp fNe (iCB fIsiC (iCons (iVar 7) (iCons (iC (.gl "Shared")) iNil))) (iVar 6))) (iNot (iB (iIs "Shared" (iVar 7) (iMeth "Shared" "shows" i_Shared_shows (iVar 7) (iCons (iC (.int 2)) (iCons (iVar 4) (iCons (iVar 5) iNil)))) (iMeth "Crowd" "shows" i_Crowd_shows (iVar 7) (iCons (iC (.int 2)) (iCons (iVar 4) (iCons (iVar 5) iNil)))))))) (sRet (iC (.bl false))) sNext)))
  (sSeq (sIf (iNot (iB (iCB fIsiC (iCons (iCall i_shared (iCons (iC (.int 3)) (iCons (iVar 2) (iCons (iLst (iCons (iC (.int 1)) (iCons (iC (.int 1)) (iCons (iC (.int 1)) iNil)))) iNil)))) (iCons (iC (.gl "Shared")) iNil))))) (sRet (iC (.bl false))) sNext)
  (sSeq (sIf (iOr (iNot (iB (iCB fIsiC (iCons (iCall i_shared (iCons (iC (.int 3)) (iCons (iVar 2) (iCons (iLst (iCons (iC (.int 1)) (iCons (iC (.int 1)) (iCons (iC (.int 0)) iNil)))) iNil)))) (iCons (iC (.gl "Crowd")) iNil))))) (iB (iOp fNe (iFld (iCall i_shared (iCons (iC (.int 60)) (iCons (iLst iNil) (iCons (iOp fMul (iLst (iCons (iC (.int 0)) iNil)) (iC (.int 60))) iNil)))) "sharing") (iLst iNil)))) (sRet (iC (.bl false))) sNext)
  (sSeq (sIf (iOr (iB (iOp fNe (iCall i_loads (iCons (iC (.int 2)) (iCons (iVar 1) (iCons (iLst (iCons (iC (.int 0)) (iCons (iC (.int 1)) (iCons (iC (.int 1)) iNil)))) iNil)))) (iLst (iCons (iC (.int 1)) (iCons (iC (.int 2)) iNil))))) (iB (iOp fNe (iCall i_loads (iCons (iC (.int 3)) (iCons (iLst iNil) (iCons (iLst iNil) iNil)))) (iLst (iCons (iC (.int 0)) (iCons (iC (.int 0)) (iCons (iC (.int 0)) iNil))))))) (sRet (iC (.bl false))) sNext)
  (sRet (iOp fEq (iCall i_loads (iCons (iC (.int 3)) (iCons (iVar 2) (iCons (iLst (iCons (iC (.int 0)) (iCons (iC (.int 1)) (iCons (iC (.int 2)) iNil)))) iNil)))) (iLst (iCons (iC (.int 1)) (iCons (iC (.int 1)) (iCons (iC (.int 1)) iNil)))))))))))))))))))))))))

/-- 0 _law_tree, 1 _law_ring, 2 _law_pair, 3 _law_cases, 4 _law_people, 5 _law_tasks, 6 _law_most, 7 _law_found, 8 _law_told, 9 _law_due -/
noncomputable def i__law_even_right : Fn := gcF (mkFn 0 10 (sSeq (sPar3 0 1 2 (iCons (iLst (iCons (IL.iTup (iCons (iC (.int 0)) (iCons (iC (.int 1)) iNil))) (iCons (IL.iTup (iCons (iC (.int 1)) (iCons (iC (.int 2)) iNil))) (iCons (IL.iTup (iCons (iC (.int 1)) (iCons (iC (.int 3)) iNil))) iNil)))) (iCons (iLst (iCons (IL.iTup (iCons (iC (.int 0)) (iCons (iC (.int 1)) iNil))) (iCons (IL.iTup (iCons (iC (.int 1)) (iCons (iC (.int 2)) iNil))) (iCons (IL.iTup (iCons (iC (.int 0)) (iCons (iC (.int 2)) iNil))) iNil)))) (iCons (iOp fMul (iLst (iCons (IL.iTup (iCons (iC (.int 0)) (iCons (iC (.int 1)) iNil))) iNil)) (iC (.int 3))) iNil))))
  (sSeq (sAsg (iLst (iCons (IL.iTup (iCons (iC (.int 4)) (iCons (iVar 0) (iCons (iMake "Even" i_Even_init (iCons (iLst (iCons (iC (.int 0)) (iCons (iC (.int 2)) (iCons (iC (.int 3)) iNil)))) (iCons (iLst (iCons (iC (.int 0)) (iCons (iC (.int 1)) iNil))) iNil))) (iCons (iC (.bl true)) iNil))))) (iCons (IL.iTup (iCons (iC (.int 4)) (iCons (iVar 0) (iCons (iMake "Even" i_Even_init (iCons (iLst (iCons (iC (.int 0)) (iCons (iC (.int 2)) (iCons (iC (.int 3)) iNil)))) (iCons (iLst iNil) iNil))) (iCons (iC (.bl false)) iNil))))) iNil))) (tgName 3))
  (sSeq (sAsg (iOp fAdd (iVar 3) (iLst (iCons (IL.iTup (iCons (iC (.int 4)) (iCons (iVar 0) (iCons (iMake "Even" i_Even_init (iCons (iLst (iCons (iC (.int 1)) (iCons (iC (.int 2)) (iCons (iC (.int 3)) iNil)))) (iCons (iLst (iCons (iC (.int 0)) (iCons (iC (.int 1)) (iCons (iC (.int 2)) (iCons (iC (.int 3)) iNil))))) iNil))) (iCons (iC (.bl true)) iNil))))) iNil))) (tgName 3))
  (sSeq (sAsg (iOp fAdd (iVar 3) (iLst (iCons (IL.iTup (iCons (iC (.int 4)) (iCons (iVar 0) (iCons (iMake "Even" i_Even_init (iCons (iLst (iCons (iC (.int 1)) (iCons (iC (.int 1)) (iCons (iC (.int 3)) iNil)))) (iCons (iLst (iCons (iC (.int 0)) (iCons (iC (.int 1)) (iCons (iC (.int 2)) (iCons (iC (.int 3)) iNil))))) iNil))) (iCons (iC (.bl false)) iNil))))) iNil))) (tgName 3))
  (sSeq (sAsg (iOp fAdd (iVar 3) (iLst (iCons (IL.iTup (iCons (iC (.int 3)) (iCons (iVar 1) (iCons (iMake "Even" i_Even_init (iCons (iLst (iCons (iC (.int 0)) (iCons (iC (.int 1)) (iCons (iC (.int 2)) iNil)))) (iCons (iLst (iCons (iC (.int 0)) (iCons (iC (.int 1)) (iCons (iC (.int 2)) iNil)))) iNil))) (iCons (iC (.bl true)) iNil))))) iNil))) (tgName 3))
  (sSeq (sAsg (iOp fAdd (iVar 3) (iLst (iCons (IL.iTup (iCons (iC (.int 3)) (iCons (iVar 1) (iCons (iMake "Even" i_Even_init (iCons (iLst (iCons (iC (.int 0)) (iCons (iC (.int 1)) (iCons (iC (.int 2)) iNil)))) (iCons (iLst (iCons (iC (.int 0)) (iCons (iC (.int 1)) iNil))) iNil))) (iCons (iC (.bl true)) iNil))))) (iCons (IL.iTup (iCons (iC (.int 2)) (iCons (iVar 2) (iCons (iMake "Even" i_Even_init (iCons (iLst (iCons (iC (.int 0)) (iCons (iC (.int 1)) (iCons (iC (.int 1)) iNil)))) (iCons (iLst (iCons (iC (.int 0)) (iCons (iC (.int 1)) iNil))) iNil))) (iCons (iC (.bl true)) iNil))))) iNil)))) (tgName 3))
  (sSeq (sAsg (iOp fAdd (iVar 3) (iLst (iCons (IL.iTup (iCons (iC (.int 2)) (iCons (iVar 2) (iCons (iMake "Even" i_Even_init (iCons (iLst (iCons (iC (.int 1)) (iCons (iC (.int 1)) (iCons (iC (.int 1)) iNil)))) (iCons (iLst (iCons (iC (.int 0)) (iCons (iC (.int 1)) iNil))) iNil))) (iCons (iC (.bl false)) iNil))))) iNil))) (tgName 3))
  (sSeq (sAsg (iOp fAdd (iVar 3) (iLst (iCons (IL.iTup (iCons (iC (.int 2)) (iCons (iVar 2) (iCons (iMake "Even" i_Even_init (iCons (iLst (iCons (iC (.int 0)) (iCons (iC (.int 1)) (iCons (iC (.int 1)) iNil)))) (iCons (iLst (iCons (iC (.int 1)) (iCons (iC (.int 0)) iNil))) iNil))) (iCons (iC (.bl false)) iNil))))) (iCons (IL.iTup (iCons (iC (.int 3)) (iCons (iLst iNil) (iCons (iMake "Even" i_Even_init (iCons (iLst iNil) (iCons (iLst iNil) iNil))) (iCons (iC (.bl true)) iNil))))) iNil)))) (tgName 3))
  (sSeq (sAsg (iOp fAdd (iVar 3) (iLst (iCons (IL.iTup (iCons (iC (.int 3)) (iCons (iLst iNil) (iCons (iMake "Even" i_Even_init (iCons (iLst iNil) (iCons (iLst (iCons (iC (.int 0)) iNil)) iNil))) (iCons (iC (.bl false)) iNil))))) (iCons (IL.iTup (iCons (iC (.int 2)) (iCons (iVar 2) (iCons (iMake "Even" i_Even_init (iCons (iLst (iCons (iC (.int 0)) (iCons (iC (.int 1)) iNil))) (iCons (iLst (iCons (iC (.int 0)) (iCons (iC (.int 1)) iNil))) iNil))) (iCons (iC (.bl false)) iNil))))) iNil)))) (tgName 3))
  (sSeq (sAsg (iOp fAdd (iVar 3) (iLst (iCons (IL.iTup (iCons (iC (.int 3)) (iCons (iVar 1) (iCons (iMake "Even" i_Even_init (iCons (iLst (iCons (iC (.int 0)) (iCons (iC (.int 1)) (iCons (iC (.int 2)) iNil)))) (iCons (iLst (iCons (iC (.int 0)) iNil)) iNil))) (iCons (iC (.bl false)) iNil))))) iNil))) (tgName 3))
  (sSeq (sIf (iB (iCB fAny (iCons (iLc (itList (iVar 3)) (tgTupN 4 [(tgName 4), (tgName 5), (tgName 8), (tgName 9)]) iYes (iOp fNe (iMeth "Even" "shows" i_Even_shows (iVar 8) (iCons (iVar 4) (iCons (iVar 5) iNil))) (iVar 9)) [4, 5, 8, 9]) iNil))) (sRet (iC (.bl false))) sNext)
  (sSeq (sAsg (iLst (iCons (IL.iTup (iCons (iC (.int 4)) (iCons (iVar 0) (iCons (iC (.int 1)) iNil)))) (iCons (IL.iTup (iCons (iC (.int 3)) (iCons (iVar 1) (iCons (iC (.int 1)) iNil)))) (iCons (IL.iTup (iCons (iC (.int 2)) (iCons (iVar 2) (iCons (iC (.int 2)) iNil)))) (iCons (IL.iTup (iCons (iC (.int 4)) (iCons (iOp fAdd (iVar 0) (iVar 1)) (iCons (iC (.int 2)) iNil)))) (iCons (IL.iTup (iCons (iC (.int 2)) (iCons (iOp fMul (iLst (iCons (IL.iTup (iCons (iC (.int 0)) (iCons (iC (.int 1)) iNil))) iNil)) (iC (.int 7))) (iCons (iC (.int 4)) iNil)))) (iCons (IL.iTup (iCons (iC (.int 60)) (iCons (iLst iNil) (iCons (iC (.int 0)) iNil)))) iNil))))))) (tgName 3))
  (sSeq (sFor (itList (iVar 3)) (tgTupN 3 [(tgName 4), (tgName 5), (tgName 6)]) (sSeq (sAsg (iCall i_evenest (iCons (iVar 4) (iCons (iVar 5) iNil))) (tgName 7))
  (sIf (iOr (iNot (iB (iMeth "Even" "shows" i_Even_shows (iVar 7) (iCons (iVar 4) (iCons (iVar 5) iNil))))) (iB (iOp fNe (iCB fMax (iCons (iCall i_loads (iCons (iVar 4) (iCons (iVar 5) (iCons (iFld (iVar 7) "sharing") iNil)))) iNil)) (iVar 6)))) (sRet (iC (.bl false))) sNext)))
  (sRet (iOp fEq (IL.iTup (iCons (iFld (iCall i_evenest (iCons (iC (.int 3)) (iCons (iLst iNil) iNil))) "sharing") (iCons (iFld (iCall i_evenest (iCons (iC (.int 3)) (iCons (iLst iNil) iNil))) "some") iNil))) (IL.iTup (iCons (iLst iNil) (iCons (iLst iNil) iNil)))))))))))))))))))

/-- 0 _law_tasks, 1 _law_sharing, 2 _law_cases, 3 _law_found, 4 _law_late, 5 _law_at, 6 _law_told, 7 _law_one, 8 _law_other, 9 _law_due -/
noncomputable def i__law_passed_right : Fn := gcF (mkFn 0 10 (sSeq (sAsg (iLst (iCons (IL.iTup (iCons (iC (.int 0)) (iCons (iC (.int 1)) iNil))) (iCons (IL.iTup (iCons (iC (.int 1)) (iCons (iC (.int 2)) iNil))) (iCons (IL.iTup (iCons (iC (.int 2)) (iCons (iC (.int 3)) iNil))) (iCons (IL.iTup (iCons (iC (.int 0)) (iCons (iC (.int 2)) iNil))) iNil))))) (tgName 0))
  (sSeq (sAsg (iLst (iCons (iC (.int 0)) (iCons (iC (.int 1)) (iCons (iC (.int 2)) (iCons (iC (.int 2)) iNil))))) (tgName 1))
  (sSeq (sAsg (iLst (iCons (IL.iTup (iCons (iMake "Chain" i_Chain_init (iCons (iLst (iCons (iC (.int 0)) (iCons (iC (.int 1)) (iCons (iC (.int 2)) iNil)))) iNil)) (iCons (iC (.int 0)) (iCons (iC (.int 3)) (iCons (iC (.bl true)) iNil))))) (iCons (IL.iTup (iCons (iMake "Chain" i_Chain_init (iCons (iLst (iCons (iC (.int 0)) (iCons (iC (.int 1)) iNil))) iNil)) (iCons (iC (.int 0)) (iCons (iC (.int 2)) (iCons (iC (.bl true)) iNil))))) iNil))) (tgName 2))
  (sSeq (sAsg (iOp fAdd (iVar 2) (iLst (iCons (IL.iTup (iCons (iMake "Chain" i_Chain_init (iCons (iLst (iCons (iC (.int 0)) iNil)) iNil)) (iCons (iC (.int 0)) (iCons (iC (.int 1)) (iCons (iC (.bl true)) iNil))))) (iCons (IL.iTup (iCons (iMake "Chain" i_Chain_init (iCons (iLst iNil) iNil)) (iCons (iC (.int 0)) (iCons (iC (.int 1)) (iCons (iC (.bl false)) iNil))))) (iCons (IL.iTup (iCons (iMake "Chain" i_Chain_init (iCons (iLst (iCons (iC (.int 1)) (iCons (iC (.int 2)) iNil))) iNil)) (iCons (iC (.int 0)) (iCons (iC (.int 3)) (iCons (iC (.bl false)) iNil))))) iNil))))) (tgName 2))
  (sSeq (sAsg (iOp fAdd (iVar 2) (iLst (iCons (IL.iTup (iCons (iMake "Chain" i_Chain_init (iCons (iLst (iCons (iC (.int 0)) (iCons (iC (.int 1)) (iCons (iC (.int 3)) (iCons (iC (.int 0)) (iCons (iC (.int 1)) (iCons (iC (.int 2)) iNil))))))) iNil)) (iCons (iC (.int 0)) (iCons (iC (.int 3)) (iCons (iC (.bl false)) iNil))))) iNil))) (tgName 2))
  (sSeq (sAsg (iOp fAdd (iVar 2) (iLst (iCons (IL.iTup (iCons (iMake "Chain" i_Chain_init (iCons (iLst (iCons (iC (.int 0)) (iCons (iC (.int 1)) (iCons (iC (.int 2)) iNil)))) iNil)) (iCons (iC (.int 0)) (iCons (iC (.int 2)) (iCons (iC (.bl false)) iNil))))) (iCons (IL.iTup (iCons (iMake "Chain" i_Chain_init (iCons (iLst (iCons (iC (.int 0)) (iCons (iC (.int 4)) iNil))) iNil)) (iCons (iC (.int 0)) (iCons (iC (.int 2)) (iCons (iC (.bl false)) iNil))))) iNil)))) (tgName 2))
  (sSeq (sAsg (iOp fAdd (iVar 2) (iLst (iCons (IL.iTup (iCons (iMake "Chain" i_Chain_init (iCons (iLst (iCons (iUn fNegB (iC (.int 4))) iNil)) iNil)) (iCons (iC (.int 0)) (iCons (iC (.int 1)) (iCons (iC (.bl false)) iNil))))) (iCons (IL.iTup (iCons (iMake "Chain" i_Chain_init (iCons (iLst (iCons (iC (.int 3)) (iCons (iC (.int 0)) iNil))) iNil)) (iCons (iC (.int 2)) (iCons (iC (.int 1)) (iCons (iC (.bl true)) iNil))))) (iCons (IL.iTup (iCons (iMake "Side" i_Side_init (iCons (iLst (iCons (iC (.int 3)) iNil)) iNil)) (iCons (iC (.int 3)) (iCons (iC (.int 0)) (iCons (iC (.bl true)) iNil))))) iNil))))) (tgName 2))
  (sSeq (sAsg (iOp fAdd (iVar 2) (iLst (iCons (IL.iTup (iCons (iMake "Side" i_Side_init (iCons (iLst (iCons (iC (.int 2)) (iCons (iC (.int 3)) iNil))) iNil)) (iCons (iC (.int 3)) (iCons (iC (.int 0)) (iCons (iC (.bl false)) iNil))))) iNil))) (tgName 2))
  (sSeq (sAsg (iOp fAdd (iVar 2) (iLst (iCons (IL.iTup (iCons (iMake "Side" i_Side_init (iCons (iLst (iCons (iC (.int 1)) (iCons (iC (.int 3)) iNil))) iNil)) (iCons (iC (.int 3)) (iCons (iC (.int 0)) (iCons (iC (.bl false)) iNil))))) (iCons (IL.iTup (iCons (iMake "Side" i_Side_init (iCons (iLst (iCons (iC (.int 3)) (iCons (iC (.int 1)) iNil))) iNil)) (iCons (iC (.int 3)) (iCons (iC (.int 0)) (iCons (iC (.bl false)) iNil))))) iNil)))) (tgName 2))
  (sSeq (sAsg (iOp fAdd (iVar 2) (iLst (iCons (IL.iTup (iCons (iMake "Side" i_Side_init (iCons (iLst (iCons (iC (.int 0)) (iCons (iC (.int 3)) iNil))) iNil)) (iCons (iC (.int 3)) (iCons (iC (.int 0)) (iCons (iC (.bl false)) iNil))))) (iCons (IL.iTup (iCons (iMake "Side" i_Side_init (iCons (iLst (iCons (iC (.int 0)) (iCons (iC (.int 1)) (iCons (iC (.int 2)) (iCons (iC (.int 3)) iNil))))) iNil)) (iCons (iC (.int 3)) (iCons (iC (.int 0)) (iCons (iC (.bl false)) iNil))))) (iCons (IL.iTup (iCons (iMake "Side" i_Side_init (iCons (iLst iNil) iNil)) (iCons (iC (.int 3)) (iCons (iC (.int 0)) (iCons (iC (.bl false)) iNil))))) iNil))))) (tgName 2))
  (sSeq (sAsg (iOp fAdd (iVar 2) (iLst (iCons (IL.iTup (iCons (iMake "Side" i_Side_init (iCons (iLst (iCons (iC (.int 0)) (iCons (iC (.int 1)) (iCons (iC (.int 2)) iNil)))) iNil)) (iCons (iC (.int 0)) (iCons (iC (.int 3)) (iCons (iC (.bl false)) iNil))))) (iCons (IL.iTup (iCons (iMake "Side" i_Side_init (iCons (iLst (iCons (iC (.int 3)) (iCons (iC (.int 4)) iNil))) iNil)) (iCons (iC (.int 3)) (iCons (iC (.int 0)) (iCons (iC (.bl false)) iNil))))) iNil)))) (tgName 2))
  (sSeq (sIf (iB (iCB fAny (iCons (iLc (itList (iVar 2)) (tgTupN 4 [(tgName 6), (tgName 7), (tgName 8), (tgName 9)]) iYes (iOp fNe (iIs "Chain" (iVar 6) (iMeth "Chain" "shows" i_Chain_shows (iVar 6) (iCons (iC (.int 4)) (iCons (iVar 0) (iCons (iVar 1) (iCons (iVar 7) (iCons (iVar 8) iNil)))))) (iMeth "Side" "shows" i_Side_shows (iVar 6) (iCons (iC (.int 4)) (iCons (iVar 0) (iCons (iVar 1) (iCons (iVar 7) (iCons (iVar 8) iNil))))))) (iVar 9)) [6, 7, 8, 9]) iNil))) (sRet (iC (.bl false))) sNext)
  (sSeq (sIf (iNot (iB (iIs "Chain" (iMake "Side" i_Side_init (iCons (iLst (iCons (iC (.int 1)) iNil)) iNil)) (iMeth "Chain" "shows" i_Chain_shows (iMake "Side" i_Side_init (iCons (iLst (iCons (iC (.int 1)) iNil)) iNil)) (iCons (iC (.int 2)) (iCons (iLst (iCons (IL.iTup (iCons (iC (.int 0)) (iCons (iC (.int 1)) iNil))) iNil)) (iCons (iLst (iCons (iC (.int 0)) iNil)) (iCons (iC (.int 1)) (iCons (iC (.int 0)) iNil)))))) (iMeth "Side" "shows" i_Side_shows (iMake "Side" i_Side_init (iCons (iLst (iCons (iC (.int 1)) iNil)) iNil)) (iCons (iC (.int 2)) (iCons (iLst (iCons (IL.iTup (iCons (iC (.int 0)) (iCons (iC (.int 1)) iNil))) iNil)) (iCons (iLst (iCons (iC (.int 0)) iNil)) (iCons (iC (.int 1)) (iCons (iC (.int 0)) iNil))))))))) (sRet (iC (.bl false))) sNext)
  (sSeq (sAsg (iCall i_passed (iCons (iC (.int 4)) (iCons (iVar 0) (iCons (iVar 1) (iCons (iC (.int 0)) (iCons (iC (.int 3)) iNil)))))) (tgName 3))
  (sSeq (sIf (iOr (iNot (iB (iCB fIsiC (iCons (iVar 3) (iCons (iC (.gl "Chain")) iNil))))) (iB (iOp fNe (iFld (iVar 3) "tasks") (iLst (iCons (iC (.int 0)) (iCons (iC (.int 1)) (iCons (iC (.int 2)) iNil))))))) (sRet (iC (.bl false))) sNext)
  (sSeq (sIf (iNot (iB (iCB fIsiC (iCons (iCall i_passed (iCons (iC (.int 4)) (iCons (iVar 0) (iCons (iVar 1) (iCons (iC (.int 3)) (iCons (iC (.int 0)) iNil)))))) (iCons (iC (.gl "Side")) iNil))))) (sRet (iC (.bl false))) sNext)
  (sSeq (sIf (iB (iOp fNe (iFld (iCall i_passed (iCons (iC (.int 4)) (iCons (iVar 0) (iCons (iVar 1) (iCons (iC (.int 1)) (iCons (iC (.int 0)) iNil)))))) "tasks") (iLst (iCons (iC (.int 1)) (iCons (iC (.int 3)) iNil))))) (sRet (iC (.bl false))) sNext)
  (sSeq (sAsg (iCB fList (iCons (iVar 1) iNil)) (tgName 4))
  (sSeq (sFor (itList (iFld (iVar 3) "tasks")) (tgName 5) (sAsg (iOp fSub (iOp fAdd (iOp fIx (iOp fIx (iVar 0) (iVar 5)) (iC (.int 0))) (iOp fIx (iOp fIx (iVar 0) (iVar 5)) (iC (.int 1)))) (iOp fIx (iVar 4) (iVar 5))) (tgSub (iVar 4) (iVar 5))))
  (sSeq (sIf (iOr (iB (iOp fNe (iCall i_loads (iCons (iC (.int 4)) (iCons (iVar 0) (iCons (iVar 4) iNil)))) (iLst (iCons (iC (.int 0)) (iCons (iC (.int 1)) (iCons (iC (.int 2)) (iCons (iC (.int 1)) iNil))))))) (iB (iOp fNe (iCall i_loads (iCons (iC (.int 4)) (iCons (iVar 0) (iCons (iVar 1) iNil)))) (iLst (iCons (iC (.int 1)) (iCons (iC (.int 1)) (iCons (iC (.int 2)) (iCons (iC (.int 0)) iNil)))))))) (sRet (iC (.bl false))) sNext)
  (sRet (iC (.bl true))))))))))))))))))))))))

/-- 0 _law_two, 1 _law_one, 2 _law_other, 3 _law_told, 4 _law_ring, 5 _law_at, 6 _law_later -/
noncomputable def i__law_rings_right : Fn := gcF (mkFn 0 7 (sSeq (sAsg (iLst (iCons (IL.iTup (iCons (iC (.int 0)) (iCons (iC (.int 1)) iNil))) (iCons (IL.iTup (iCons (iC (.int 1)) (iCons (iC (.int 2)) iNil))) (iCons (IL.iTup (iCons (iC (.int 0)) (iCons (iC (.int 2)) iNil))) (iCons (IL.iTup (iCons (iC (.int 0)) (iCons (iC (.int 1)) iNil))) (iCons (IL.iTup (iCons (iC (.int 0)) (iCons (iC (.int 1)) iNil))) iNil)))))) (tgName 0))
  (sSeq (sAsg (IL.iTup (iCons (iLst (iCons (iC (.int 0)) (iCons (iC (.int 1)) (iCons (iC (.int 2)) (iCons (iC (.int 0)) (iCons (iC (.int 1)) iNil)))))) (iCons (iLst (iCons (iC (.int 1)) (iCons (iC (.int 2)) (iCons (iC (.int 0)) (iCons (iC (.int 1)) (iCons (iC (.int 0)) iNil)))))) iNil))) (tgTupN 2 [(tgName 1), (tgName 2)]))
  (sSeq (sAsg (iCall i_rings (iCons (iC (.int 3)) (iCons (iVar 0) (iCons (iVar 1) (iCons (iVar 2) iNil))))) (tgName 3))
  (sSeq (sIf (iB (iOp fNe (iCall i_rings (iCons (iC (.int 3)) (iCons (iVar 0) (iCons (iVar 1) (iCons (iVar 1) iNil))))) (iLst iNil))) (sRet (iC (.bl false))) sNext)
  (sSeq (sIf (iB (iOp fNe (iCB fSorted (iCons (iLc (itList (iVar 3)) (tgName 4) iYes (iCB fLen (iCons (iVar 4) iNil)) [4]) iNil)) (iLst (iCons (iC (.int 2)) (iCons (iC (.int 3)) iNil))))) (sRet (iC (.bl false))) sNext)
  (sSeq (sFor (itList (iVar 3)) (tgName 4) (sSeq (sFor (itZip (iVar 4) (iOp fAdd (iSl (iVar 4) (iPart (iC (.int 1))) iNoPart) (iSl (iVar 4) iNoPart (iPart (iC (.int 1)))))) (tgTupN 2 [(tgName 5), (tgName 6)]) (sIf (iOr (iB (iOp fNe (iOp fSub (iOp fAdd (iOp fIx (iOp fIx (iVar 0) (iVar 5)) (iC (.int 0))) (iOp fIx (iOp fIx (iVar 0) (iVar 5)) (iC (.int 1)))) (iOp fIx (iVar 1) (iVar 5))) (iOp fIx (iVar 1) (iVar 6)))) (iB (iOp fEq (iOp fIx (iVar 1) (iVar 5)) (iOp fIx (iVar 2) (iVar 5))))) (sRet (iC (.bl false))) sNext))
  (sIf (iB (iOp fLtB (iCB fLenSet (iCons (iLc (itList (iVar 4)) (tgName 5) iYes (iOp fIx (iVar 1) (iVar 5)) [5]) iNil)) (iCB fLen (iCons (iVar 4) iNil)))) (sRet (iC (.bl false))) sNext)))
  (sRet (iC (.bl true))))))))))

def caps__law_refused_right : List (Nat × List Nat) := [(0, []), (1, []), (2, [1]), (3, []), (4, [1]), (5, [1]), (6, [1]), (7, [1]), (8, [1]), (9, [1]), (10, [1]), (11, []), (12, [1]), (13, [])]

/-- 0 _law_far, 1 _law_tasks, 2 _law_asks, 3 _law_words, 4 _law_bad, 5 _law_ask -/
noncomputable def i__law_refused_right : Fn := mkFnW 1 6 (sSeq (sAsg (iLst (iCons (IL.iTup (iCons (iC (.int 0)) (iCons (iC (.int 1)) iNil))) iNil)) (tgName 1))
  (sSeq (sAsg (iLst (iCons (iLam 0) (iCons (iLam 1) iNil))) (tgName 2))
  (sSeq (sAsg (iOp fAdd (iVar 2) (iLst (iCons (iLam 2) iNil))) (tgName 2))
  (sSeq (sAsg (iOp fAdd (iVar 2) (iLst (iCons (iLam 3) (iCons (iLam 4) iNil)))) (tgName 2))
  (sSeq (sAsg (iOp fAdd (iVar 2) (iLst (iCons (iLam 5) (iCons (iLam 6) iNil)))) (tgName 2))
  (sSeq (sAsg (iOp fAdd (iVar 2) (iLst (iCons (iLam 7) (iCons (iLam 8) iNil)))) (tgName 2))
  (sSeq (sAsg (iLst (iCons (iC (.str "people")) (iCons (iC (.str "tasks")) (iCons (iC (.str "limits")) (iCons (iC (.str "people")) (iCons (iC (.str "person")) (iCons (iC (.str "sharing")) (iCons (iC (.str "unlike")) (iCons (iC (.str "sharing")) (iCons (iC (.str "sharing")) iNil)))))))))) (tgName 3))
  (sSeq (sIf (iB (iOp fNe (iLcW caps__law_refused_right (itList (iVar 2)) (tgName 5) iYes (iCall i__law_word (iCons (iVar 5) (iCons (iC .non) iNil))) [5]) (iVar 3))) (sRet (iC (.bl false))) sNext)
  (sSeq (sIf (iB (iOp fNe (iCallW caps__law_refused_right i__law_word (iCons (iLam 9) (iCons (iC (.int 2)) iNil))) (iC (.str "person")))) (sRet (iC (.bl false))) sNext)
  (sSeq (sIf (iB (iOp fNe (iCallW caps__law_refused_right i__law_word (iCons (iLam 10) (iCons (iC (.int 2)) iNil))) (iC (.str "person")))) (sRet (iC (.bl false))) sNext)
  (sSeq (sFor (itTup (IL.iTup (iCons (iLst (iCons (IL.iTup (iCons (iC (.int 1)) (iCons (iC (.int 0)) iNil))) iNil)) (iCons (iLst (iCons (IL.iTup (iCons (iC (.int 0)) (iCons (iC (.int 0)) iNil))) iNil)) (iCons (iLst (iCons (iLst (iCons (iC (.int 0)) (iCons (iC (.int 1)) iNil))) iNil)) (iCons (iLst (iCons (IL.iTup (iCons (iC (.int 0)) (iCons (iC (.int 2)) iNil))) iNil)) (iCons (iLst (iCons (IL.iTup (iCons (iC (.int 0)) (iCons (iC (.bl true)) iNil))) iNil)) (iCons (IL.iTup (iCons (IL.iTup (iCons (iC (.int 0)) (iCons (iC (.int 1)) iNil))) iNil)) (iCons (iLst (iCons (IL.iTup (iCons (iC (.int 0)) iNil)) iNil)) (iCons (iLst (iCons (iC .non) iNil)) iNil)))))))))) (tgName 4) (sIf (iB (iOp fNe (iCallW caps__law_refused_right i__law_word (iCons (iLam 11) (iCons (iVar 4) iNil))) (iC (.str "tasks")))) (sRet (iC (.bl false))) sNext))
  (sSeq (sFor (itTup (IL.iTup (iCons (iLst (iCons (iC (.int 0)) iNil)) (iCons (iLst (iCons (iC (.int 0)) (iCons (iUn fNegB (iC (.int 1))) iNil))) (iCons (iLst (iCons (iC (.int 0)) (iCons (iC (.bl true)) iNil))) (iCons (IL.iTup (iCons (iC (.int 0)) (iCons (iC (.int 0)) iNil))) (iCons (iLst (iCons (iC (.int 0)) (iCons (iC (.int 0)) (iCons (iC (.int 0)) iNil)))) (iCons (iLst (iCons (iC (.int 0)) (iCons (iC .non) iNil))) (iCons (iLst (iCons (iUn fNegB (iVar 0)) (iCons (iC (.int 0)) iNil))) iNil))))))))) (tgName 4) (sIf (iB (iOp fNe (iCallW caps__law_refused_right i__law_word (iCons (iLam 12) (iCons (iVar 4) iNil))) (iC (.str "limits")))) (sRet (iC (.bl false))) sNext))
  (sRet (iCB fAll (iCons (iLcW caps__law_refused_right (itTup (IL.iTup (iCons (iC (.int 0)) (iCons (iUn fNegB (iC (.int 1))) (iCons (iC (.bl true)) (iCons (iC (.int 61)) (iCons (iVar 0) (iCons (iC .non) (iCons (iC (.str "2")) iNil))))))))) (tgName 4) iYes (iOp fEq (iCall i__law_word (iCons (iLam0 13) (iCons (iVar 4) iNil))) (iC (.str "people"))) [4]) iNil)))))))))))))))

/-- 0 _law_script, 1 _law_far -/
noncomputable def i_law (ns : List Int) : Fn := mkFn 1 2 (sSeq (sAsg (iOp fAdd (iOp fPow (iC (.int 10)) (iC (.int 30))) (iCB fAbs (iCons (iCB fSum (iCons (iSl (iVar 0) iNoPart (iPart (iC (.int 2)))) iNil)) iNil))) (tgName 1))
  (sSeq (sIf (iOr (iNot (iB (iCallE (farOf ns) i__law_limits_right (iCons (iVar 1) iNil)))) (iNot (iB (iCallE (farOf ns) i__law_even_right iNil)))) (sRet (iC (.bl false))) sNext)
  (sRet (iAndV (iCallE (farOf ns) i__law_passed_right iNil) (iAndV (iCallE (farOf ns) i__law_rings_right iNil) (iCallE (farOf ns) i__law_refused_right (iCons (iVar 1) iNil)))))))

end IL

end
section
set_option Elab.async false
set_option linter.all false
set_option maxRecDepth 100000
set_option maxHeartbeats 4000000
namespace IL
open PySem L2
def top (i : Nat) : Stmt := PySem.Challenge.pw_eitherdoes_k10_promises_by_hand.main.body.getD i (.Pass ⟨0, 0, 0, 0⟩)
structure Tx (g : Gm) (mg : Str → Option Value) : Prop where
  b : Bt mg
  g_MOST : ∃ t, mg "MOST" = some (.int 60 t)
  E : ExT g
  z_ValueError : mg "ValueError" = none
  kv : ∀ c ∈ excL, PySem.W.kitOne g.K (.ref (g.γ c)) (.type "ValueError") = some (eIs "ValueError" c)
  g_EitherError : mg "EitherError" = some (.ref (g.γ "EitherError"))
  g_BadPeople : mg "BadPeople" = some (.ref (g.γ "BadPeople"))
  g_BadTasks : mg "BadTasks" = some (.ref (g.γ "BadTasks"))
  g_BadLimits : mg "BadLimits" = some (.ref (g.γ "BadLimits"))
  g_BadSharing : mg "BadSharing" = some (.ref (g.γ "BadSharing"))
  g_BadPerson : mg "BadPerson" = some (.ref (g.γ "BadPerson"))
  g_Unlike : mg "Unlike" = some (.ref (g.γ "Unlike"))
  x_BadPeople : PySem.W.excIn g.K (g.γ "BadPeople") [.type "ValueError", .type "Exception", .type "BaseException", .type "object"] "ValueError.__new__" = true
  k_BadPeople : PySem.W.keepIn g.K (.ref (g.γ "BadPeople")) = true
  b_BadPeople : PySem.W.subIn g.K (.ref (g.γ "BadPeople")) (.type "BaseException") = some true
  t_BadPeople : PySem.W.typeIn g.K (.ref (g.γ "BadPeople")) = some (.type "type")
  x_BadTasks : PySem.W.excIn g.K (g.γ "BadTasks") [.type "ValueError", .type "Exception", .type "BaseException", .type "object"] "ValueError.__new__" = true
  k_BadTasks : PySem.W.keepIn g.K (.ref (g.γ "BadTasks")) = true
  b_BadTasks : PySem.W.subIn g.K (.ref (g.γ "BadTasks")) (.type "BaseException") = some true
  t_BadTasks : PySem.W.typeIn g.K (.ref (g.γ "BadTasks")) = some (.type "type")
  x_BadLimits : PySem.W.excIn g.K (g.γ "BadLimits") [.type "ValueError", .type "Exception", .type "BaseException", .type "object"] "ValueError.__new__" = true
  k_BadLimits : PySem.W.keepIn g.K (.ref (g.γ "BadLimits")) = true
  b_BadLimits : PySem.W.subIn g.K (.ref (g.γ "BadLimits")) (.type "BaseException") = some true
  t_BadLimits : PySem.W.typeIn g.K (.ref (g.γ "BadLimits")) = some (.type "type")
  x_BadSharing : PySem.W.excIn g.K (g.γ "BadSharing") [.type "ValueError", .type "Exception", .type "BaseException", .type "object"] "ValueError.__new__" = true
  k_BadSharing : PySem.W.keepIn g.K (.ref (g.γ "BadSharing")) = true
  b_BadSharing : PySem.W.subIn g.K (.ref (g.γ "BadSharing")) (.type "BaseException") = some true
  t_BadSharing : PySem.W.typeIn g.K (.ref (g.γ "BadSharing")) = some (.type "type")
  x_BadPerson : PySem.W.excIn g.K (g.γ "BadPerson") [.type "ValueError", .type "Exception", .type "BaseException", .type "object"] "ValueError.__new__" = true
  k_BadPerson : PySem.W.keepIn g.K (.ref (g.γ "BadPerson")) = true
  b_BadPerson : PySem.W.subIn g.K (.ref (g.γ "BadPerson")) (.type "BaseException") = some true
  t_BadPerson : PySem.W.typeIn g.K (.ref (g.γ "BadPerson")) = some (.type "type")
  x_Unlike : PySem.W.excIn g.K (g.γ "Unlike") [.type "ValueError", .type "Exception", .type "BaseException", .type "object"] "ValueError.__new__" = true
  k_Unlike : PySem.W.keepIn g.K (.ref (g.γ "Unlike")) = true
  b_Unlike : PySem.W.subIn g.K (.ref (g.γ "Unlike")) (.type "BaseException") = some true
  t_Unlike : PySem.W.typeIn g.K (.ref (g.γ "Unlike")) = some (.type "type")
  cl : Cl g
  na_sharing : ∀ c ∈ clsL, NoAttr g.K (g.γ c) "sharing"
  na_some : ∀ c ∈ clsL, NoAttr g.K (g.γ c) "some"
  na_tasks : ∀ c ∈ clsL, NoAttr g.K (g.γ c) "tasks"
  g_Answer : mg "Answer" = some (.ref (g.γ "Answer"))
  g_Shared : mg "Shared" = some (.ref (g.γ "Shared"))
  g_Crowd : mg "Crowd" = some (.ref (g.γ "Crowd"))
  g_Even : mg "Even" = some (.ref (g.γ "Even"))
  g_Chain : mg "Chain" = some (.ref (g.γ "Chain"))
  g_Side : mg "Side" = some (.ref (g.γ "Side"))
/-- the lambdas -/
def lamT : Nat → LI
  | 0 => liOf "_law_refused_right.<locals>.<lambda>" [] (kid (valOf (stAt (defBody (top 44)) 1)) 0)
  | 1 => liOf "_law_refused_right.<locals>.<lambda>" [] (kid (valOf (stAt (defBody (top 44)) 1)) 1)
  | 2 => liOf "_law_refused_right.<locals>.<lambda>" ["_law_tasks"] (kid (kid (valOf (stAt (defBody (top 44)) 2)) 1) 0)
  | 3 => liOf "_law_refused_right.<locals>.<lambda>" [] (kid (kid (valOf (stAt (defBody (top 44)) 3)) 1) 0)
  | 4 => liOf "_law_refused_right.<locals>.<lambda>" ["_law_tasks"] (kid (kid (valOf (stAt (defBody (top 44)) 3)) 1) 1)
  | 5 => liOf "_law_refused_right.<locals>.<lambda>" ["_law_tasks"] (kid (kid (valOf (stAt (defBody (top 44)) 4)) 1) 0)
  | 6 => liOf "_law_refused_right.<locals>.<lambda>" ["_law_tasks"] (kid (kid (valOf (stAt (defBody (top 44)) 4)) 1) 1)
  | 7 => liOf "_law_refused_right.<locals>.<lambda>" ["_law_tasks"] (kid (kid (valOf (stAt (defBody (top 44)) 5)) 1) 0)
  | 8 => liOf "_law_refused_right.<locals>.<lambda>" ["_law_tasks"] (kid (kid (valOf (stAt (defBody (top 44)) 5)) 1) 1)
  | 9 => liOf "_law_refused_right.<locals>.<lambda>" ["_law_tasks"] (kid (kid (valOf (stAt (defBody (top 44)) 8)) 0) 1)
  | 10 => liOf "_law_refused_right.<locals>.<lambda>" ["_law_tasks"] (kid (kid (valOf (stAt (defBody (top 44)) 9)) 0) 1)
  | 11 => liOf "_law_refused_right.<locals>.<lambda>" [] (kid (kid (valOf (stAt (inB (stAt (defBody (top 44)) 10)) 0)) 0) 1)
  | 12 => liOf "_law_refused_right.<locals>.<lambda>" ["_law_tasks"] (kid (kid (valOf (stAt (inB (stAt (defBody (top 44)) 11)) 0)) 0) 1)
  | 13 => liOf "_law_refused_right.<locals>.<lambda>" [] (kid (kid (kid (kid (valOf (stAt (defBody (top 44)) 12)) 1) 0) 0) 1)
  | _ => liOf "" [] noE
section
variable {P : Program} {w : World} {g : Gm} {mg : Str → Option Value} {base : Heap}

abbrev s_is_number : Stmt := top 10
theorem sc_is_number : FnScope ["thing", "least"] ["thing", "least"] (defScope s_is_number) := ⟨rfl, rfl, rfl, by decide +kernel, rfl, by decide +kernel, by decide +kernel⟩
theorem ok_is_number {f : Addr} {fd : FuncData} (F : Fun g.K "is_number" "is_number" s_is_number f fd) (T : Tx g mg) : FnOk P w g.K mg base (CXN P w) 1 f fd ["thing", "least"] (iSpX g i_is_number) :=
  gc_ok (okN F sc_is_number (iSpX_len rfl) (fun cdv AA outer s H vs Q E hr h => ⟨_, (pss_one (ps_ret (pe_and (pe_callB call_isi (by rfl) T.b.isinstance (by decide +kernel) (pa_cons (pv 0) (pa_cons (pe_bltn (v := .ty "int") (by rfl) T.b.int (by decide +kernel) rfl) pa_nil))) (pe_and (pe_not (pe_callB call_isi (by rfl) T.b.isinstance (by decide +kernel) (pa_cons (pv 0) (pa_cons (pe_bltn (v := .ty "bool") (by rfl) T.b.bool (by decide +kernel) rfl) pa_nil)))) (pe_one (pe_cmpR op_ge (pv 0) (pv 1) (nomark _))))))), bodyX h rfl ((ss_ret (sd_andV (sd_cb sc_isiB (sd_cons sd_var (sd_cons sd_ty sd_nil))) (sd_andV (sd_notV (sd_cb sc_isiB (sd_cons sd_var (sd_cons sd_ty sd_nil)))) (sd_op sr_geB sd_var sd_var)))))⟩))

abbrev s_is_task : Stmt := top 11
theorem sc_is_task : FnScope ["thing", "people", "one"] ["thing", "people"] (defScope s_is_task) := ⟨rfl, rfl, rfl, by decide +kernel, rfl, by decide +kernel, by decide +kernel⟩
theorem ok_is_task {f : Addr} {fd : FuncData} (F : Fun g.K "is_task" "is_task" s_is_task f fd) (T : Tx g mg) (c_is_number : Cal P w g.K mg base (CXN P w) 1 "is_number" ["thing", "least"] (iSpX g i_is_number)) : FnOk P w g.K mg base (CXN P w) 2 f fd ["thing", "people"] (iSpX g i_is_task) :=
  gc_ok (okN F sc_is_task (iSpX_len rfl) (fun cdv AA outer s H vs Q E hr h => ⟨_, (pss_cons (ps_if (pw_or (pt_not (pt_truth (pe_callB call_isi (by rfl) T.b.isinstance (by decide +kernel) (pa_cons (pv 0) (pa_cons (pe_bltn (v := .ty "tuple") (by rfl) T.b.tuple (by decide +kernel) rfl) pa_nil))) (fun _ => rfl))) (pw_or (pt_cmpR (op_neD hr.units) (pe_callB call_LEN (by rfl) T.b.len (by decide +kernel) (pa_cons (pv 0) pa_nil)) pe_int (nomark _)) (pw_or1 (pt_not (pt_truth (pe_callB (cr_all rfl) (by rfl) T.b.all (by decide +kernel) (pa_cons (pe_lc (own := [("one", 2)]) (by rfl) sc_is_task.nd (pi_tup (pv 0)) (blkOk_by (own := [("one", 2)]) (N := ["thing", "people", "one"]) (sc := defScope s_is_task) (by decide +kernel)) (fun _ _ _ _ _ => (pg_name (i := 2) sc_is_task.nd rfl (by first | exact Or.inl rfl | exact Or.inr rfl))) (fun _ _ _ _ _ => pts_nil) (fun _ _ _ _ _ => (px_cal c_is_number (hr.mono (by decide)) (by rfl) passN0 (pa_cons (pv 2) (pa_cons pe_int pa_nil))))) pa_nil)) (fun _ => rfl)))))).pt (pss_one (ps_ret pe_bl)) pss_nil)
    (pss_one (ps_ret (pe_chain op_lt op_lt (pe_ix ix_seq (pv 0) pe_int (fun _ _ => rfl)) (pe_ix ix_seq (pv 0) pe_int (fun _ _ => rfl)) (pv 1))))), bodyX h rfl ((ss_seq (ss_if (sd_or (sd_not (sd_tru (sd_cb sc_isiB (sd_cons sd_var (sd_cons sd_ty sd_nil))))) (sd_or (sd_test (sd_op sr_ne (sd_cb sc_len (sd_cons sd_var sd_nil)) sd_int)) (sd_not (sd_tru (sd_cb sc_all (sd_cons (sd_lc (si_tup sd_var) sg_name (wp_name (by simp)) sd_yes (sx_call0 (sd_cons sd_var (sd_cons sd_int sd_nil)))) sd_nil)))))) (ss_ret sd_bl) ss_next)
    (ss_ret (sd_chain sr_ltB sr_ltB (sd_op sr_ix sd_var sd_int) (sd_op sr_ix sd_var sd_int) sd_var))))⟩))

abbrev s_check_tasks : Stmt := top 12
theorem sc_check_tasks : FnScope ["people", "tasks", "task"] ["people", "tasks"] (defScope s_check_tasks) := ⟨rfl, rfl, rfl, by decide +kernel, rfl, by decide +kernel, by decide +kernel⟩
theorem ok_check_tasks {f : Addr} {fd : FuncData} (F : Fun g.K "check_tasks" "check_tasks" s_check_tasks f fd) (T : Tx g mg) (c_is_number : Cal P w g.K mg base (CXN P w) 1 "is_number" ["thing", "least"] (iSpX g i_is_number)) (c_is_task : Cal P w g.K mg base (CXN P w) 2 "is_task" ["thing", "people"] (iSpX g i_is_task)) : FnOk P w g.K mg base (CXN P w) 3 f fd ["people", "tasks"] (iSpX g i_check_tasks) :=
  gc_ok (okN F sc_check_tasks (iSpX_len rfl) (fun cdv AA outer s H vs Q E hr h => ⟨_, (pss_cons (ps_if (pw_or (pt_not (pt_truth (px_cal c_is_number (hr.mono (by decide)) (by rfl) passD (pa_cons (pv 0) (pa_cons pe_int pa_nil))) (fun _ => rfl))) (pw_or1 (pt_cmpR op_gt (pv 0) (pe_glob (v := .int 60) (by rfl) T.g_MOST.choose_spec ⟨_, rfl⟩) (nomark _)))).pt (pss_one (L2N.ps_raise rfl takesD (L2N.pmk_own PySem.F.excBase_ValueError T.x_BadPeople T.g_BadPeople T.k_BadPeople (raises_own T.b_BadPeople T.t_BadPeople) (by exact rfl)))) pss_nil)
    (pss_one (ps_if (pw_or (pt_not (pt_truth (pe_callB call_isi (by rfl) T.b.isinstance (by decide +kernel) (pa_cons (pv 1) (pa_cons (pe_bltn (v := .ty "list") (by rfl) T.b.list (by decide +kernel) rfl) pa_nil))) (fun _ => rfl))) (pw_or1 (pt_not (pt_truth (pe_callB (cr_all rfl) (by rfl) T.b.all (by decide +kernel) (pa_cons (pe_lc (own := [("task", 2)]) (by rfl) sc_check_tasks.nd (pi_list (pv 1)) (blkOk_by (own := [("task", 2)]) (N := ["people", "tasks", "task"]) (sc := defScope s_check_tasks) (by decide +kernel)) (fun _ _ _ _ _ => (pg_name (i := 2) sc_check_tasks.nd rfl (by first | exact Or.inl rfl | exact Or.inr rfl))) (fun _ _ _ _ _ => pts_nil) (fun _ _ _ _ _ => (px_cal c_is_task (hr.mono (by decide)) (by rfl) passN0 (pa_cons (pv 2) (pa_cons (pv 0) pa_nil))))) pa_nil)) (fun _ => rfl))))).pt (pss_one (L2N.ps_raise rfl takesD (L2N.pmk_own PySem.F.excBase_ValueError T.x_BadTasks T.g_BadTasks T.k_BadTasks (raises_own T.b_BadTasks T.t_BadTasks) (by exact rfl)))) pss_nil))), bodyX h rfl ((ss_seq (ss_if (sd_or (sd_not (sd_tru (sx_call (sd_cons sd_var (sd_cons sd_int sd_nil))))) (sd_test (sd_op sr_gtB sd_var sd_int))) (sx_raise rfl) ss_next)
    (ss_if (sd_or (sd_not (sd_tru (sd_cb sc_isiB (sd_cons sd_var (sd_cons sd_ty sd_nil))))) (sd_not (sd_tru (sd_cb sc_all (sd_cons (sd_lc (si_list sd_var) sg_name (wp_name (by simp)) sd_yes (sx_call0 (sd_cons sd_var (sd_cons sd_var sd_nil)))) sd_nil))))) (sx_raise rfl) ss_next)))⟩))

abbrev s_check_limits : Stmt := top 13
theorem sc_check_limits : FnScope ["people", "limits", "one"] ["people", "limits"] (defScope s_check_limits) := ⟨rfl, rfl, rfl, by decide +kernel, rfl, by decide +kernel, by decide +kernel⟩
theorem ok_check_limits {f : Addr} {fd : FuncData} (F : Fun g.K "check_limits" "check_limits" s_check_limits f fd) (T : Tx g mg) (c_is_number : Cal P w g.K mg base (CXN P w) 1 "is_number" ["thing", "least"] (iSpX g i_is_number)) : FnOk P w g.K mg base (CXN P w) 2 f fd ["people", "limits"] (iSpX g i_check_limits) :=
  gc_ok (okN F sc_check_limits (iSpX_len rfl) (fun cdv AA outer s H vs Q E hr h => ⟨_, (pss_one (ps_if (pw_or (pt_not (pt_truth (pe_callB call_isi (by rfl) T.b.isinstance (by decide +kernel) (pa_cons (pv 1) (pa_cons (pe_bltn (v := .ty "list") (by rfl) T.b.list (by decide +kernel) rfl) pa_nil))) (fun _ => rfl))) (pw_or (pt_cmpR (op_neD hr.units) (pe_callB call_LEN (by rfl) T.b.len (by decide +kernel) (pa_cons (pv 1) pa_nil)) (pv 0) (nomark _)) (pw_or1 (pt_not (pt_truth (pe_callB (cr_all rfl) (by rfl) T.b.all (by decide +kernel) (pa_cons (pe_lc (own := [("one", 2)]) (by rfl) sc_check_limits.nd (pi_list (pv 1)) (blkOk_by (own := [("one", 2)]) (N := ["people", "limits", "one"]) (sc := defScope s_check_limits) (by decide +kernel)) (fun _ _ _ _ _ => (pg_name (i := 2) sc_check_limits.nd rfl (by first | exact Or.inl rfl | exact Or.inr rfl))) (fun _ _ _ _ _ => pts_nil) (fun _ _ _ _ _ => (px_cal c_is_number (hr.mono (by decide)) (by rfl) passN0 (pa_cons (pv 2) (pa_cons pe_int pa_nil))))) pa_nil)) (fun _ => rfl)))))).pt (pss_one (L2N.ps_raise rfl takesD (L2N.pmk_own PySem.F.excBase_ValueError T.x_BadLimits T.g_BadLimits T.k_BadLimits (raises_own T.b_BadLimits T.t_BadLimits) (by exact rfl)))) pss_nil)), bodyX h rfl ((ss_if (sd_or (sd_not (sd_tru (sd_cb sc_isiB (sd_cons sd_var (sd_cons sd_ty sd_nil))))) (sd_or (sd_test (sd_op sr_ne (sd_cb sc_len (sd_cons sd_var sd_nil)) sd_var)) (sd_not (sd_tru (sd_cb sc_all (sd_cons (sd_lc (si_list sd_var) sg_name (wp_name (by simp)) sd_yes (sx_call0 (sd_cons sd_var (sd_cons sd_int sd_nil)))) sd_nil)))))) (sx_raise rfl) ss_next))⟩))

abbrev s_is_sharing : Stmt := top 14
theorem sc_is_sharing : FnScope ["tasks", "sharing", "one", "task", "who"] ["tasks", "sharing"] (defScope s_is_sharing) := ⟨rfl, rfl, rfl, by decide +kernel, rfl, by decide +kernel, by decide +kernel⟩
theorem ok_is_sharing {f : Addr} {fd : FuncData} (F : Fun g.K "is_sharing" "is_sharing" s_is_sharing f fd) (T : Tx g mg) (c_is_number : Cal P w g.K mg base (CXN P w) 1 "is_number" ["thing", "least"] (iSpX g i_is_number)) : FnOk P w g.K mg base (CXN P w) 2 f fd ["tasks", "sharing"] (iSpX g i_is_sharing) :=
  gc_ok (okN F sc_is_sharing (iSpX_len rfl) (fun cdv AA outer s H vs Q E hr h => ⟨_, (pss_cons (ps_if (pw_or (pt_not (pt_truth (pe_callB call_isi (by rfl) T.b.isinstance (by decide +kernel) (pa_cons (pv 1) (pa_cons (pe_bltn (v := .ty "list") (by rfl) T.b.list (by decide +kernel) rfl) pa_nil))) (fun _ => rfl))) (pw_or (pt_cmpR (op_neD hr.units) (pe_callB call_LEN (by rfl) T.b.len (by decide +kernel) (pa_cons (pv 1) pa_nil)) (pe_callB call_LEN (by rfl) T.b.len (by decide +kernel) (pa_cons (pv 0) pa_nil)) (nomark _)) (pw_or1 (pt_not (pt_truth (pe_callB (cr_all rfl) (by rfl) T.b.all (by decide +kernel) (pa_cons (pe_lc (own := [("one", 2)]) (by rfl) sc_is_sharing.nd (pi_list (pv 1)) (blkOk_by (own := [("one", 2)]) (N := ["tasks", "sharing", "one", "task", "who"]) (sc := defScope s_is_sharing) (by decide +kernel)) (fun _ _ _ _ _ => (pg_name (i := 2) sc_is_sharing.nd rfl (by first | exact Or.inl rfl | exact Or.inr rfl))) (fun _ _ _ _ _ => pts_nil) (fun _ _ _ _ _ => (px_cal c_is_number (hr.mono (by decide)) (by rfl) passN0 (pa_cons (pv 2) (pa_cons pe_int pa_nil))))) pa_nil)) (fun _ => rfl)))))).pt (pss_one (ps_ret pe_bl)) pss_nil)
    (pss_one (ps_ret (pe_callB (cr_all rfl) (by rfl) T.b.all (by decide +kernel) (pa_cons (pe_lc (own := [("task", 3), ("who", 4)]) (by rfl) sc_is_sharing.nd (pi_zip (by rfl) T.b.zip (pa_cons (pv 0) (pa_cons (pv 1) pa_nil))) (blkOk_by (own := [("task", 3), ("who", 4)]) (N := ["tasks", "sharing", "one", "task", "who"]) (sc := defScope s_is_sharing) (by decide +kernel)) (fun _ _ _ _ _ => (pg_tup rfl (pgs_cons (pg_name (i := 3) sc_is_sharing.nd rfl (by first | exact Or.inl rfl | exact Or.inr rfl)) (pgs_cons (pg_name (i := 4) sc_is_sharing.nd rfl (by first | exact Or.inl rfl | exact Or.inr rfl)) pgs_nil)))) (fun _ _ _ _ _ => pts_nil) (fun _ _ _ _ _ => (pe_cmpR op_in_seq (pv 4) (pv 3) rfl))) pa_nil))))), bodyX h rfl ((ss_seq (ss_if (sd_or (sd_not (sd_tru (sd_cb sc_isiB (sd_cons sd_var (sd_cons sd_ty sd_nil))))) (sd_or (sd_test (sd_op sr_ne (sd_cb sc_len (sd_cons sd_var sd_nil)) (sd_cb sc_len (sd_cons sd_var sd_nil)))) (sd_not (sd_tru (sd_cb sc_all (sd_cons (sd_lc (si_list sd_var) sg_name (wp_name (by simp)) sd_yes (sx_call0 (sd_cons sd_var (sd_cons sd_int sd_nil)))) sd_nil)))))) (ss_ret sd_bl) ss_next)
    (ss_ret (sd_cb sc_all (sd_cons (sd_lc (si_zip sd_var sd_var) (sg_tup (sgs_cons sg_name (sgs_cons sg_name sgs_nil))) (wp_tup (wps_cons (by simp) (wps_cons (by simp) wps_nil))) sd_yes (sd_op sr_in sd_var sd_var)) sd_nil)))))⟩))

abbrev s_check_sharing : Stmt := top 15
theorem sc_check_sharing : FnScope ["tasks", "sharing"] ["tasks", "sharing"] (defScope s_check_sharing) := ⟨rfl, rfl, rfl, by decide +kernel, rfl, by decide +kernel, by decide +kernel⟩
theorem ok_check_sharing {f : Addr} {fd : FuncData} (F : Fun g.K "check_sharing" "check_sharing" s_check_sharing f fd) (T : Tx g mg) (c_is_sharing : Cal P w g.K mg base (CXN P w) 2 "is_sharing" ["tasks", "sharing"] (iSpX g i_is_sharing)) : FnOk P w g.K mg base (CXN P w) 3 f fd ["tasks", "sharing"] (iSpX g i_check_sharing) :=
  gc_ok (okN F sc_check_sharing (iSpX_len rfl) (fun cdv AA outer s H vs Q E hr h => ⟨_, (pss_one (ps_if (pt_not (pt_truth (px_cal c_is_sharing (hr.mono (by decide)) (by rfl) passD (pa_cons (pv 0) (pa_cons (pv 1) pa_nil))) (fun _ => rfl))) (pss_one (L2N.ps_raise rfl takesD (L2N.pmk_own PySem.F.excBase_ValueError T.x_BadSharing T.g_BadSharing T.k_BadSharing (raises_own T.b_BadSharing T.t_BadSharing) (by exact rfl)))) pss_nil)), bodyX h rfl ((ss_if (sd_not (sd_tru (sx_call (sd_cons sd_var (sd_cons sd_var sd_nil))))) (sx_raise rfl) ss_next))⟩))

abbrev s_loads_of : Stmt := top 16
theorem sc_loads_of : FnScope ["people", "sharing", "found", "who"] ["people", "sharing"] (defScope s_loads_of) := ⟨rfl, rfl, rfl, by decide +kernel, rfl, by decide +kernel, by decide +kernel⟩
theorem ok_loads_of {f : Addr} {fd : FuncData} (F : Fun g.K "loads_of" "loads_of" s_loads_of f fd) (T : Tx g mg) : FnOk P w g.K mg base (CXN P w) 1 f fd ["people", "sharing"] (iSpX g i_loads_of) :=
  gc_ok (okN F sc_loads_of (iSpX_len rfl) (fun cdv AA outer s H vs Q E hr h => ⟨_, (pss_cons (ps_set (i := 2) sc_loads_of.nd rfl (by first | exact Or.inl rfl | exact Or.inr rfl) (pe_op op_MUL (pe_lst (pa_cons pe_int pa_nil)) (pv 0)))
    (pss_cons (ps_for ownD (by rfl) (pi_list (pv 1)) (pg_name (i := 3) sc_loads_of.nd rfl (by first | exact Or.inl rfl | exact Or.inr rfl)) (pss_one (ps_augS (pv 2) (pv 3) get_LIST pe_int ip_add set_list)))
    (pss_one (ps_ret (pv 2))))), bodyX h rfl ((ss_seq (ss_asg (sd_op sr_mul (sd_lst 1 (len_cons len_nil) (by decide) (sd_cons sd_int sd_nil)) sd_var) sg_name)
    (ss_seq (ss_for (si_list sd_var) sg_name (ss_augS sd_var sd_var sd_int))
    (ss_ret sd_var))))⟩))

abbrev s_loads : Stmt := top 17
theorem sc_loads : FnScope ["people", "tasks", "sharing"] ["people", "tasks", "sharing"] (defScope s_loads) := ⟨rfl, rfl, rfl, by decide +kernel, rfl, by decide +kernel, by decide +kernel⟩
theorem ok_loads {f : Addr} {fd : FuncData} (F : Fun g.K "loads" "loads" s_loads f fd) (T : Tx g mg) (c_check_tasks : Cal P w g.K mg base (CXN P w) 3 "check_tasks" ["people", "tasks"] (iSpX g i_check_tasks)) (c_check_sharing : Cal P w g.K mg base (CXN P w) 3 "check_sharing" ["tasks", "sharing"] (iSpX g i_check_sharing)) (c_loads_of : Cal P w g.K mg base (CXN P w) 1 "loads_of" ["people", "sharing"] (iSpX g i_loads_of)) : FnOk P w g.K mg base (CXN P w) 4 f fd ["people", "tasks", "sharing"] (iSpX g i_loads) :=
  gc_ok (okN F sc_loads (iSpX_len rfl) (fun cdv AA outer s H vs Q E hr h => ⟨_, (pss_cons (ps_expr (px_cal c_check_tasks (hr.mono (by decide)) (by rfl) passD (pa_cons (pv 0) (pa_cons (pv 1) pa_nil))))
    (pss_cons (ps_expr (px_cal c_check_sharing (hr.mono (by decide)) (by rfl) passD (pa_cons (pv 1) (pa_cons (pv 2) pa_nil))))
    (pss_one (ps_ret (px_cal c_loads_of (hr.mono (by decide)) (by rfl) passD (pa_cons (pv 0) (pa_cons (pv 2) pa_nil))))))), bodyX h rfl ((ss_seq (ss_expr (sx_call (sd_cons sd_var (sd_cons sd_var sd_nil))))
    (ss_seq (ss_expr (sx_call (sd_cons sd_var (sd_cons sd_var sd_nil))))
    (ss_ret (sx_call (sd_cons sd_var (sd_cons sd_var sd_nil)))))))⟩))

abbrev s_second_of : Stmt := top 18
theorem sc_second_of : FnScope ["task", "who"] ["task", "who"] (defScope s_second_of) := ⟨rfl, rfl, rfl, by decide +kernel, rfl, by decide +kernel, by decide +kernel⟩
theorem ok_second_of {f : Addr} {fd : FuncData} (F : Fun g.K "second_of" "second_of" s_second_of f fd) (T : Tx g mg) : FnOk P w g.K mg base (CXN P w) 1 f fd ["task", "who"] (iSpX g i_second_of) :=
  gc_ok (okN F sc_second_of (iSpX_len rfl) (fun cdv AA outer s H vs Q E hr h => ⟨_, (pss_one (ps_ret (pe_op op_sub (pe_op op_ADD (pe_ix ix_seq (pv 0) pe_int (fun _ _ => rfl)) (pe_ix ix_seq (pv 0) pe_int (fun _ _ => rfl))) (pv 1)))), bodyX h rfl ((ss_ret (sd_op sr_sub (sd_op sr_add (sd_op sr_ix sd_var sd_int) (sd_op sr_ix sd_var sd_int)) sd_var)))⟩))

abbrev s_among : Stmt := top 19
theorem sc_among : FnScope ["tasks", "some", "task"] ["tasks", "some"] (defScope s_among) := ⟨rfl, rfl, rfl, by decide +kernel, rfl, by decide +kernel, by decide +kernel⟩
theorem ok_among {f : Addr} {fd : FuncData} (F : Fun g.K "among" "among" s_among f fd) (T : Tx g mg) : FnOk P w g.K mg base (CXN P w) 1 f fd ["tasks", "some"] (iSpX g i_among) :=
  gc_ok (okN F sc_among (iSpX_len rfl) (fun cdv AA outer s H vs Q E hr h => ⟨_, (pss_one (ps_ret (pe_callB call_LEN (by rfl) T.b.len (by decide +kernel) (pa_cons (pe_lc (own := [("task", 2)]) (by rfl) sc_among.nd (pi_list (pv 0)) (blkOk_by (own := [("task", 2)]) (N := ["tasks", "some", "task"]) (sc := defScope s_among) (by decide +kernel)) (fun _ _ _ _ _ => (pg_name (i := 2) sc_among.nd rfl (by first | exact Or.inl rfl | exact Or.inr rfl))) (fun _ _ _ _ _ => (pts_one (pw_and (pt_cmpR op_in_seq (pe_ix ix_seq (pv 2) pe_int (fun _ _ => rfl)) (pv 1) rfl) (pw_and1 (pt_cmpR op_in_seq (pe_ix ix_seq (pv 2) pe_int (fun _ _ => rfl)) (pv 1) rfl))).pt)) (fun _ _ _ _ _ => (pv 2))) pa_nil)))), bodyX h rfl ((ss_ret (sd_cb sc_len (sd_cons (sd_lc (si_list sd_var) sg_name (wp_name (by simp)) (sd_and (sd_test (sd_op sr_in (sd_op sr_ix sd_var sd_int) sd_var)) (sd_test (sd_op sr_in (sd_op sr_ix sd_var sd_int) sd_var))) sd_var) sd_nil))))⟩))

abbrev s_are_people : Stmt := top 20
theorem sc_are_people : FnScope ["some", "people", "one"] ["some", "people"] (defScope s_are_people) := ⟨rfl, rfl, rfl, by decide +kernel, rfl, by decide +kernel, by decide +kernel⟩
theorem ok_are_people {f : Addr} {fd : FuncData} (F : Fun g.K "are_people" "are_people" s_are_people f fd) (T : Tx g mg) : FnOk P w g.K mg base (CXN P w) 1 f fd ["some", "people"] (iSpX g i_are_people) :=
  gc_ok (okN F sc_are_people (iSpX_len rfl) (fun cdv AA outer s H vs Q E hr h => ⟨_, (pss_one (ps_ret (pe_and (pe_cmpR (op_eqD hr.units) (pv 0) (pe_callB (cr_sortedSet rfl) (by rfl) T.b.sorted (by decide +kernel) (pa_cons (pe_callTy (call_SET rfl) (by rfl) T.b.set (by decide +kernel) (pa_cons (pv 0) pa_nil)) pa_nil)) (nomark _)) (pe_one (pe_callB (cr_all rfl) (by rfl) T.b.all (by decide +kernel) (pa_cons (pe_lc (own := [("one", 2)]) (by rfl) sc_are_people.nd (pi_list (pv 0)) (blkOk_by (own := [("one", 2)]) (N := ["some", "people", "one"]) (sc := defScope s_are_people) (by decide +kernel)) (fun _ _ _ _ _ => (pg_name (i := 2) sc_are_people.nd rfl (by first | exact Or.inl rfl | exact Or.inr rfl))) (fun _ _ _ _ _ => pts_nil) (fun _ _ _ _ _ => (pe_chain op_le op_lt pe_int (pv 2) (pv 1)))) pa_nil)))))), bodyX h rfl ((ss_ret (sd_andV (sd_op sr_eq sd_var (sd_sortedSet (sd_cons sd_var sd_nil))) (sd_cb sc_all (sd_cons (sd_lc (si_list sd_var) sg_name (wp_name (by simp)) sd_yes (sd_chain sr_leB sr_ltB sd_int sd_var sd_var)) sd_nil)))))⟩))

abbrev s_Shared_init : Stmt := inClass (top 23) 0
theorem sc_Shared_init : FnScope ["self", "sharing"] ["self", "sharing"] (defScope s_Shared_init) := ⟨rfl, rfl, rfl, by decide +kernel, rfl, by decide +kernel, by decide +kernel⟩
theorem ok_Shared_init {f : Addr} {fd : FuncData} (F : Fun g.K "__init__" "Shared.__init__" s_Shared_init f fd) (T : Tx g mg) : FnOk P w g.K mg base (CXN P w) 1 f fd ["self", "sharing"] (iSpX g i_Shared_init) :=
  gc_ok (okN F sc_Shared_init (iSpX_len rfl) (fun cdv AA outer s H vs Q E hr h => ⟨_, (pss_one (ps_fld (pv 0) (pe_callTy call_LIST (by rfl) T.b.list (by decide +kernel) (pa_cons (pv 1) pa_nil)) rfl)), bodyX h rfl ((ss_fld T.cl T.na_sharing sd_var (sd_cb sc_list (sd_cons sd_var sd_nil))))⟩))

abbrev s_Shared_shows : Stmt := inClass (top 23) 1
theorem sc_Shared_shows : FnScope ["self", "people", "tasks", "limits", "load", "limit"] ["self", "people", "tasks", "limits"] (defScope s_Shared_shows) := ⟨rfl, rfl, rfl, by decide +kernel, rfl, by decide +kernel, by decide +kernel⟩
theorem ok_Shared_shows {f : Addr} {fd : FuncData} (F : Fun g.K "shows" "Shared.shows" s_Shared_shows f fd) (T : Tx g mg) (c_is_sharing : Cal P w g.K mg base (CXN P w) 2 "is_sharing" ["tasks", "sharing"] (iSpX g i_is_sharing)) (c_loads_of : Cal P w g.K mg base (CXN P w) 1 "loads_of" ["people", "sharing"] (iSpX g i_loads_of)) : FnOk P w g.K mg base (CXN P w) 3 f fd ["self", "people", "tasks", "limits"] (iSpX g i_Shared_shows) :=
  gc_ok (okN F sc_Shared_shows (iSpX_len rfl) (fun cdv AA outer s H vs Q E hr h => ⟨_, (pss_cons (ps_if (pt_not (pt_truth (px_cal c_is_sharing (hr.mono (by decide)) (by rfl) passD (pa_cons (pv 2) (pa_cons (pe_fld (pv 0) rfl) pa_nil))) (fun _ => rfl))) (pss_one (ps_ret pe_bl)) pss_nil)
    (pss_one (ps_ret (pe_callB (cr_all rfl) (by rfl) T.b.all (by decide +kernel) (pa_cons (pe_lc (own := [("load", 4), ("limit", 5)]) (by rfl) sc_Shared_shows.nd (pi_zip (by rfl) T.b.zip (pa_cons (px_cal c_loads_of (hr.mono (by decide)) (by rfl) passD (pa_cons (pv 1) (pa_cons (pe_fld (pv 0) rfl) pa_nil))) (pa_cons (pv 3) pa_nil))) (blkOk_by (own := [("load", 4), ("limit", 5)]) (N := ["self", "people", "tasks", "limits", "load", "limit"]) (sc := defScope s_Shared_shows) (by decide +kernel)) (fun _ _ _ _ _ => (pg_tup rfl (pgs_cons (pg_name (i := 4) sc_Shared_shows.nd rfl (by first | exact Or.inl rfl | exact Or.inr rfl)) (pgs_cons (pg_name (i := 5) sc_Shared_shows.nd rfl (by first | exact Or.inl rfl | exact Or.inr rfl)) pgs_nil)))) (fun _ _ _ _ _ => pts_nil) (fun _ _ _ _ _ => (pe_cmpR op_le (pv 4) (pv 5) (nomark _)))) pa_nil))))), bodyX h rfl ((ss_seq (ss_if (sd_not (sd_tru (sx_call (sd_cons sd_var (sd_cons (sd_fld T.cl T.na_sharing sd_var) sd_nil))))) (ss_ret sd_bl) ss_next)
    (ss_ret (sd_cb sc_all (sd_cons (sd_lc (si_zip (sx_call (sd_cons sd_var (sd_cons (sd_fld T.cl T.na_sharing sd_var) sd_nil))) sd_var) (sg_tup (sgs_cons sg_name (sgs_cons sg_name sgs_nil))) (wp_tup (wps_cons (by simp) (wps_cons (by simp) wps_nil))) sd_yes (sd_op sr_leB sd_var sd_var)) sd_nil)))))⟩))

abbrev s_Crowd_init : Stmt := inClass (top 24) 0
theorem sc_Crowd_init : FnScope ["self", "some"] ["self", "some"] (defScope s_Crowd_init) := ⟨rfl, rfl, rfl, by decide +kernel, rfl, by decide +kernel, by decide +kernel⟩
theorem ok_Crowd_init {f : Addr} {fd : FuncData} (F : Fun g.K "__init__" "Crowd.__init__" s_Crowd_init f fd) (T : Tx g mg) : FnOk P w g.K mg base (CXN P w) 1 f fd ["self", "some"] (iSpX g i_Crowd_init) :=
  gc_ok (okN F sc_Crowd_init (iSpX_len rfl) (fun cdv AA outer s H vs Q E hr h => ⟨_, (pss_one (ps_fld (pv 0) (pe_callTy call_LIST (by rfl) T.b.list (by decide +kernel) (pa_cons (pv 1) pa_nil)) rfl)), bodyX h rfl ((ss_fld T.cl T.na_some sd_var (sd_cb sc_list (sd_cons sd_var sd_nil))))⟩))

abbrev s_Crowd_shows : Stmt := inClass (top 24) 1
theorem sc_Crowd_shows : FnScope ["self", "people", "tasks", "limits", "one"] ["self", "people", "tasks", "limits"] (defScope s_Crowd_shows) := ⟨rfl, rfl, rfl, by decide +kernel, rfl, by decide +kernel, by decide +kernel⟩
theorem ok_Crowd_shows {f : Addr} {fd : FuncData} (F : Fun g.K "shows" "Crowd.shows" s_Crowd_shows f fd) (T : Tx g mg) (c_are_people : Cal P w g.K mg base (CXN P w) 1 "are_people" ["some", "people"] (iSpX g i_are_people)) (c_among : Cal P w g.K mg base (CXN P w) 1 "among" ["tasks", "some"] (iSpX g i_among)) : FnOk P w g.K mg base (CXN P w) 2 f fd ["self", "people", "tasks", "limits"] (iSpX g i_Crowd_shows) :=
  gc_ok (okN F sc_Crowd_shows (iSpX_len rfl) (fun cdv AA outer s H vs Q E hr h => ⟨_, (pss_cons (ps_if (pt_not (pt_truth (px_cal c_are_people (hr.mono (by decide)) (by rfl) passD (pa_cons (pe_fld (pv 0) rfl) (pa_cons (pv 1) pa_nil))) (fun _ => rfl))) (pss_one (ps_ret pe_bl)) pss_nil)
    (pss_one (ps_ret (pe_cmpR op_gt (px_cal c_among (hr.mono (by decide)) (by rfl) passD (pa_cons (pv 2) (pa_cons (pe_fld (pv 0) rfl) pa_nil))) (pe_callB (cr_sum rfl) (by rfl) T.b.sum (by decide +kernel) (pa_cons (pe_lc (own := [("one", 4)]) (by rfl) sc_Crowd_shows.nd (pi_list (pe_fld (pv 0) rfl)) (blkOk_by (own := [("one", 4)]) (N := ["self", "people", "tasks", "limits", "one"]) (sc := defScope s_Crowd_shows) (by decide +kernel)) (fun _ _ _ _ _ => (pg_name (i := 4) sc_Crowd_shows.nd rfl (by first | exact Or.inl rfl | exact Or.inr rfl))) (fun _ _ _ _ _ => pts_nil) (fun _ _ _ _ _ => (pe_ix ix_seq (pv 3) (pv 4) (fun _ _ => rfl)))) pa_nil)) (nomark _))))), bodyX h rfl ((ss_seq (ss_if (sd_not (sd_tru (sx_call (sd_cons (sd_fld T.cl T.na_some sd_var) (sd_cons sd_var sd_nil))))) (ss_ret sd_bl) ss_next)
    (ss_ret (sd_op sr_gtB (sx_call (sd_cons sd_var (sd_cons (sd_fld T.cl T.na_some sd_var) sd_nil))) (sd_cb sc_sum (sd_cons (sd_lc (si_list (sd_fld T.cl T.na_some sd_var)) sg_name (wp_name (by simp)) sd_yes (sd_op sr_ix sd_var sd_var)) sd_nil))))))⟩))

abbrev s_Even_init : Stmt := inClass (top 25) 0
theorem sc_Even_init : FnScope ["self", "sharing", "some"] ["self", "sharing", "some"] (defScope s_Even_init) := ⟨rfl, rfl, rfl, by decide +kernel, rfl, by decide +kernel, by decide +kernel⟩
theorem ok_Even_init {f : Addr} {fd : FuncData} (F : Fun g.K "__init__" "Even.__init__" s_Even_init f fd) (T : Tx g mg) : FnOk P w g.K mg base (CXN P w) 1 f fd ["self", "sharing", "some"] (iSpX g i_Even_init) :=
  gc_ok (okN F sc_Even_init (iSpX_len rfl) (fun cdv AA outer s H vs Q E hr h => ⟨_, (pss_cons (ps_fld (pv 0) (pe_callTy call_LIST (by rfl) T.b.list (by decide +kernel) (pa_cons (pv 1) pa_nil)) rfl)
    (pss_one (ps_fld (pv 0) (pe_callTy call_LIST (by rfl) T.b.list (by decide +kernel) (pa_cons (pv 2) pa_nil)) rfl))), bodyX h rfl ((ss_seq (ss_fld T.cl T.na_sharing sd_var (sd_cb sc_list (sd_cons sd_var sd_nil)))
    (ss_fld T.cl T.na_some sd_var (sd_cb sc_list (sd_cons sd_var sd_nil)))))⟩))

abbrev s_Even_shows : Stmt := inClass (top 25) 1
theorem sc_Even_shows : FnScope ["self", "people", "tasks", "most"] ["self", "people", "tasks"] (defScope s_Even_shows) := ⟨rfl, rfl, rfl, by decide +kernel, rfl, by decide +kernel, by decide +kernel⟩
theorem ok_Even_shows {f : Addr} {fd : FuncData} (F : Fun g.K "shows" "Even.shows" s_Even_shows f fd) (T : Tx g mg) (c_is_sharing : Cal P w g.K mg base (CXN P w) 2 "is_sharing" ["tasks", "sharing"] (iSpX g i_is_sharing)) (c_are_people : Cal P w g.K mg base (CXN P w) 1 "are_people" ["some", "people"] (iSpX g i_are_people)) (c_loads_of : Cal P w g.K mg base (CXN P w) 1 "loads_of" ["people", "sharing"] (iSpX g i_loads_of)) (c_among : Cal P w g.K mg base (CXN P w) 1 "among" ["tasks", "some"] (iSpX g i_among)) : FnOk P w g.K mg base (CXN P w) 3 f fd ["self", "people", "tasks"] (iSpX g i_Even_shows) :=
  gc_ok (okN F sc_Even_shows (iSpX_len rfl) (fun cdv AA outer s H vs Q E hr h => ⟨_, (pss_cons (ps_if (pw_or (pt_not (pt_truth (px_cal c_is_sharing (hr.mono (by decide)) (by rfl) passD (pa_cons (pv 2) (pa_cons (pe_fld (pv 0) rfl) pa_nil))) (fun _ => rfl))) (pw_or1 (pt_not (pt_truth (px_cal c_are_people (hr.mono (by decide)) (by rfl) passD (pa_cons (pe_fld (pv 0) rfl) (pa_cons (pv 1) pa_nil))) (fun _ => rfl))))).pt (pss_one (ps_ret pe_bl)) pss_nil)
    (pss_cons (ps_if (pt_cmpR (op_eqD hr.units) (pv 2) (pe_lst pa_nil) (nomark _)) (pss_one (ps_ret (pe_cmpR (op_eqD hr.units) (pe_fld (pv 0) rfl) (pe_lst pa_nil) (nomark _)))) pss_nil)
    (pss_cons (ps_set (i := 3) sc_Even_shows.nd rfl (by first | exact Or.inl rfl | exact Or.inr rfl) (pe_callB (call_MAX rfl) (by rfl) T.b.max (by decide +kernel) (pa_cons (px_cal c_loads_of (hr.mono (by decide)) (by rfl) passD (pa_cons (pv 1) (pa_cons (pe_fld (pv 0) rfl) pa_nil))) pa_nil)))
    (pss_one (ps_ret (pe_cmpR op_gt (px_cal c_among (hr.mono (by decide)) (by rfl) passD (pa_cons (pv 2) (pa_cons (pe_fld (pv 0) rfl) pa_nil))) (pe_op op_MUL (pe_op op_sub (pv 3) pe_int) (pe_callB call_LEN (by rfl) T.b.len (by decide +kernel) (pa_cons (pe_fld (pv 0) rfl) pa_nil))) (nomark _))))))), bodyX h rfl ((ss_seq (ss_if (sd_or (sd_not (sd_tru (sx_call (sd_cons sd_var (sd_cons (sd_fld T.cl T.na_sharing sd_var) sd_nil))))) (sd_not (sd_tru (sx_call (sd_cons (sd_fld T.cl T.na_some sd_var) (sd_cons sd_var sd_nil)))))) (ss_ret sd_bl) ss_next)
    (ss_seq (ss_if (sd_test (sd_op sr_eq sd_var (sd_lst 0 len_nil (by decide) sd_nil))) (ss_ret (sd_op sr_eq (sd_fld T.cl T.na_some sd_var) (sd_lst 0 len_nil (by decide) sd_nil))) ss_next)
    (ss_seq (ss_asg (sd_cb sc_max (sd_cons (sx_call (sd_cons sd_var (sd_cons (sd_fld T.cl T.na_sharing sd_var) sd_nil))) sd_nil)) sg_name)
    (ss_ret (sd_op sr_gtB (sx_call (sd_cons sd_var (sd_cons (sd_fld T.cl T.na_some sd_var) sd_nil))) (sd_op sr_mul (sd_op sr_sub sd_var sd_int) (sd_cb sc_len (sd_cons (sd_fld T.cl T.na_some sd_var) sd_nil)))))))))⟩))

abbrev s_Chain_init : Stmt := inClass (top 26) 0
theorem sc_Chain_init : FnScope ["self", "tasks"] ["self", "tasks"] (defScope s_Chain_init) := ⟨rfl, rfl, rfl, by decide +kernel, rfl, by decide +kernel, by decide +kernel⟩
theorem ok_Chain_init {f : Addr} {fd : FuncData} (F : Fun g.K "__init__" "Chain.__init__" s_Chain_init f fd) (T : Tx g mg) : FnOk P w g.K mg base (CXN P w) 1 f fd ["self", "tasks"] (iSpX g i_Chain_init) :=
  gc_ok (okN F sc_Chain_init (iSpX_len rfl) (fun cdv AA outer s H vs Q E hr h => ⟨_, (pss_one (ps_fld (pv 0) (pe_callTy call_LIST (by rfl) T.b.list (by decide +kernel) (pa_cons (pv 1) pa_nil)) rfl)), bodyX h rfl ((ss_fld T.cl T.na_tasks sd_var (sd_cb sc_list (sd_cons sd_var sd_nil))))⟩))

abbrev s_Chain_shows : Stmt := inClass (top 26) 1
theorem sc_Chain_shows : FnScope ["self", "people", "tasks", "sharing", "one", "other", "came", "at"] ["self", "people", "tasks", "sharing", "one", "other"] (defScope s_Chain_shows) := ⟨rfl, rfl, rfl, by decide +kernel, rfl, by decide +kernel, by decide +kernel⟩
theorem ok_Chain_shows {f : Addr} {fd : FuncData} (F : Fun g.K "shows" "Chain.shows" s_Chain_shows f fd) (T : Tx g mg) (c_second_of : Cal P w g.K mg base (CXN P w) 1 "second_of" ["task", "who"] (iSpX g i_second_of)) : FnOk P w g.K mg base (CXN P w) 2 f fd ["self", "people", "tasks", "sharing", "one", "other"] (iSpX g i_Chain_shows) :=
  gc_ok (okN F sc_Chain_shows (iSpX_len rfl) (fun cdv AA outer s H vs Q E hr h => ⟨_, (pss_cons (ps_set (i := 6) sc_Chain_shows.nd rfl (by first | exact Or.inl rfl | exact Or.inr rfl) (pe_lst (pa_cons (pv 4) pa_nil)))
    (pss_cons (ps_for ownD (by rfl) (pi_list (pe_fld (pv 0) rfl)) (pg_name (i := 7) sc_Chain_shows.nd rfl (by first | exact Or.inl rfl | exact Or.inr rfl)) (pss_cons (ps_if (pw_or (pt_not (pt_chain op_le op_lt pe_int (pv 7) (pe_callB call_LEN (by rfl) T.b.len (by decide +kernel) (pa_cons (pv 2) pa_nil)))) (pw_or1 (pt_cmpR (op_neD hr.units) (pe_ix ix_seq (pv 3) (pv 7) (fun _ _ => rfl)) (pe_ix ix_seq (pv 6) (pe_un un_neg pe_int) (fun _ _ => rfl)) (nomark _)))).pt (pss_one (ps_ret pe_bl)) pss_nil)
    (pss_one (ps_expr (pe_bm PySem.F.plainAttrs_list PySem.F.slot_list_append PySem.F.type_list_append mt_append (pv 6) (pa_cons (px_cal c_second_of (hr.mono (by decide)) (by rfl) passD (pa_cons (pe_ix ix_seq (pv 2) (pv 7) (fun _ _ => rfl)) (pa_cons (pe_ix ix_seq (pv 6) (pe_un un_neg pe_int) (fun _ _ => rfl)) pa_nil))) pa_nil))))))
    (pss_one (ps_ret (pe_and (pe_cmpR (op_eqD hr.units) (pe_ix ix_seq (pv 6) (pe_un un_neg pe_int) (fun _ _ => rfl)) (pv 5) (nomark _)) (pe_one (pe_cmpR (op_eqD hr.units) (pe_callB call_LENSET (by rfl) T.b.len (by decide +kernel) (pa_cons (pe_callTy (call_SET rfl) (by rfl) T.b.set (by decide +kernel) (pa_cons (pv 6) pa_nil)) pa_nil)) (pe_callB call_LEN (by rfl) T.b.len (by decide +kernel) (pa_cons (pv 6) pa_nil)) (nomark _)))))))), bodyX h rfl ((ss_seq (ss_asg (sd_lst 1 (len_cons len_nil) (by decide) (sd_cons sd_var sd_nil)) sg_name)
    (ss_seq (ss_for (si_list (sd_fld T.cl T.na_tasks sd_var)) sg_name (ss_seq (ss_if (sd_or (sd_not (sd_test (sd_chain sr_leB sr_ltB sd_int sd_var (sd_cb sc_len (sd_cons sd_var sd_nil))))) (sd_test (sd_op sr_ne (sd_op sr_ix sd_var sd_var) (sd_op sr_ix sd_var (sd_negB sd_int))))) (ss_ret sd_bl) ss_next)
    (ss_expr (sd_bm sm_append sd_var (sd_cons (sx_call (sd_cons (sd_op sr_ix sd_var sd_var) (sd_cons (sd_op sr_ix sd_var (sd_negB sd_int)) sd_nil))) sd_nil)))))
    (ss_ret (sd_andV (sd_op sr_eq (sd_op sr_ix sd_var (sd_negB sd_int)) sd_var) (sd_op sr_eq (sd_lenSet (sd_cons sd_var sd_nil)) (sd_cb sc_len (sd_cons sd_var sd_nil))))))))⟩))

abbrev s_Side_init : Stmt := inClass (top 27) 0
theorem sc_Side_init : FnScope ["self", "some"] ["self", "some"] (defScope s_Side_init) := ⟨rfl, rfl, rfl, by decide +kernel, rfl, by decide +kernel, by decide +kernel⟩
theorem ok_Side_init {f : Addr} {fd : FuncData} (F : Fun g.K "__init__" "Side.__init__" s_Side_init f fd) (T : Tx g mg) : FnOk P w g.K mg base (CXN P w) 1 f fd ["self", "some"] (iSpX g i_Side_init) :=
  gc_ok (okN F sc_Side_init (iSpX_len rfl) (fun cdv AA outer s H vs Q E hr h => ⟨_, (pss_one (ps_fld (pv 0) (pe_callTy call_LIST (by rfl) T.b.list (by decide +kernel) (pa_cons (pv 1) pa_nil)) rfl)), bodyX h rfl ((ss_fld T.cl T.na_some sd_var (sd_cb sc_list (sd_cons sd_var sd_nil))))⟩))

abbrev s_Side_shows : Stmt := inClass (top 27) 1
theorem sc_Side_shows : FnScope ["self", "people", "tasks", "sharing", "one", "other", "out", "at", "who"] ["self", "people", "tasks", "sharing", "one", "other"] (defScope s_Side_shows) := ⟨rfl, rfl, rfl, by decide +kernel, rfl, by decide +kernel, by decide +kernel⟩
theorem ok_Side_shows {f : Addr} {fd : FuncData} (F : Fun g.K "shows" "Side.shows" s_Side_shows f fd) (T : Tx g mg) (c_are_people : Cal P w g.K mg base (CXN P w) 1 "are_people" ["some", "people"] (iSpX g i_are_people)) (c_second_of : Cal P w g.K mg base (CXN P w) 1 "second_of" ["task", "who"] (iSpX g i_second_of)) : FnOk P w g.K mg base (CXN P w) 2 f fd ["self", "people", "tasks", "sharing", "one", "other"] (iSpX g i_Side_shows) :=
  gc_ok (okN F sc_Side_shows (iSpX_len rfl) (fun cdv AA outer s H vs Q E hr h => ⟨_, (pss_cons (ps_if (pw_or (pt_not (pt_truth (px_cal c_are_people (hr.mono (by decide)) (by rfl) passD (pa_cons (pe_fld (pv 0) rfl) (pa_cons (pv 1) pa_nil))) (fun _ => rfl))) (pw_or (pt_cmpR op_notIn_seq (pv 4) (pe_fld (pv 0) rfl) rfl) (pw_or1 (pt_cmpR op_in_seq (pv 5) (pe_fld (pv 0) rfl) rfl)))).pt (pss_one (ps_ret pe_bl)) pss_nil)
    (pss_cons (ps_setLc (i := 6) (own := [("at", 7), ("who", 8)]) (by rfl) sc_Side_shows.nd rfl rfl (sw_true rfl rfl rfl (by decide +kernel)) (pi_enum (by rfl) T.b.enumerate (pa_cons (pv 3) pa_nil)) (blkOk_by (own := [("at", 7), ("who", 8)]) (N := ["self", "people", "tasks", "sharing", "one", "other", "out", "at", "who"]) (sc := defScope s_Side_shows) (by decide +kernel)) (fun _ _ _ _ _ => (pg_tup rfl (pgs_cons (pg_name (i := 7) sc_Side_shows.nd rfl (by first | exact Or.inl rfl | exact Or.inr rfl)) (pgs_cons (pg_name (i := 8) sc_Side_shows.nd rfl (by first | exact Or.inl rfl | exact Or.inr rfl)) pgs_nil)))) (fun _ _ _ _ _ => (pts_one (pw_and (pt_cmpR op_in_seq (pv 8) (pe_fld (pv 0) rfl) rfl) (pw_and1 (pt_cmpR op_notIn_seq (px_cal c_second_of (hr.mono (by decide)) (by rfl) passN0 (pa_cons (pe_ix ix_seq (pv 2) (pv 7) (fun _ _ => rfl)) (pa_cons (pv 8) pa_nil))) (pe_fld (pv 0) rfl) rfl))).pt)) (fun _ _ _ _ _ => (pv 7)))
    (pss_one (ps_ret (pe_cmpR (op_eqD hr.units) (pv 6) (pe_lst pa_nil) (nomark _)))))), bodyX h rfl ((ss_seq (ss_if (sd_or (sd_not (sd_tru (sx_call (sd_cons (sd_fld T.cl T.na_some sd_var) (sd_cons sd_var sd_nil))))) (sd_or (sd_test (sd_op sr_in sd_var (sd_fld T.cl T.na_some sd_var))) (sd_test (sd_op sr_in sd_var (sd_fld T.cl T.na_some sd_var))))) (ss_ret sd_bl) ss_next)
    (ss_seq (ss_asg (sd_lc (si_enum sd_var) (sg_tup (sgs_cons sg_name (sgs_cons sg_name sgs_nil))) (wp_tup (wps_cons (by simp) (wps_cons (by simp) wps_nil))) (sd_and (sd_test (sd_op sr_in sd_var (sd_fld T.cl T.na_some sd_var))) (sd_test (sd_op sr_in (sx_call0 (sd_cons (sd_op sr_ix sd_var sd_var) (sd_cons sd_var sd_nil))) (sd_fld T.cl T.na_some sd_var)))) sd_var) sg_name)
    (ss_ret (sd_op sr_eq sd_var (sd_lst 0 len_nil (by decide) sd_nil))))))⟩))

abbrev s_came_from : Stmt := top 29
theorem sc_came_from : FnScope ["tasks", "sharing", "begins", "came", "one", "waiting", "at", "here", "task", "who"] ["tasks", "sharing", "begins"] (defScope s_came_from) := ⟨rfl, rfl, rfl, by decide +kernel, rfl, by decide +kernel, by decide +kernel⟩
theorem ok_came_from {f : Addr} {fd : FuncData} (F : Fun g.K "came_from" "came_from" s_came_from f fd) (T : Tx g mg) (c_second_of : Cal P w g.K mg base (CXN P w) 1 "second_of" ["task", "who"] (iSpX g i_second_of)) : FnOk P w g.K mg base (CXN P w) 2 f fd ["tasks", "sharing", "begins"] (iSpX g i_came_from) :=
  gc_ok (okN F sc_came_from (iSpX_len rfl) (fun cdv AA outer s H vs Q E hr h => ⟨_, (pss_cons (ps_set (i := 3) sc_came_from.nd rfl (by first | exact Or.inl rfl | exact Or.inr rfl) pe_dnewK)
    (pss_cons (ps_for ownD (by rfl) (pi_list (pv 2)) (pg_name (i := 4) sc_came_from.nd rfl (by first | exact Or.inl rfl | exact Or.inr rfl)) (pss_one (ps_dput (hu_of hr) (pv 3) (pv 4) (pe_un un_neg pe_int) rfl)))
    (pss_cons (ps_set (i := 5) sc_came_from.nd rfl (by first | exact Or.inl rfl | exact Or.inr rfl) (pe_callTy call_LIST (by rfl) T.b.list (by decide +kernel) (pa_cons (pv 2) pa_nil)))
    (pss_cons (ps_set (i := 6) sc_came_from.nd rfl (by first | exact Or.inl rfl | exact Or.inr rfl) pe_int)
    (pss_cons (ps_while ownD (pt_cmpR op_lt (pv 6) (pe_callB call_LEN (by rfl) T.b.len (by decide +kernel) (pa_cons (pv 5) pa_nil)) (nomark _)) (pss_cons (ps_set (i := 7) sc_came_from.nd rfl (by first | exact Or.inl rfl | exact Or.inr rfl) (pe_ix ix_seq (pv 5) (pv 6) (fun _ _ => rfl)))
    (pss_cons (ps_aug (i := 6) sc_came_from.nd rfl (by first | exact Or.inl rfl | exact Or.inr rfl) pe_int ip_add)
    (pss_one (ps_for ownD (by rfl) (pi_enum (by rfl) T.b.enumerate (pa_cons (pv 1) pa_nil)) (pg_tup rfl (pgs_cons (pg_name (i := 8) sc_came_from.nd rfl (by first | exact Or.inl rfl | exact Or.inr rfl)) (pgs_cons (pg_name (i := 9) sc_came_from.nd rfl (by first | exact Or.inl rfl | exact Or.inr rfl)) pgs_nil))) (pss_one (ps_if (pw_and (pt_cmpR (op_eqD hr.units) (pv 9) (pv 7) (nomark _)) (pw_and1 (pt_cmp (pc_dnotin (hu_of hr) (px_cal c_second_of (hr.mono (by decide)) (by rfl) passD (pa_cons (pe_ix ix_seq (pv 0) (pv 8) (fun _ _ => rfl)) (pa_cons (pv 7) pa_nil))) (pv 3)) rfl))).pt (pss_cons (ps_dput (hu_of hr) (pv 3) (px_cal c_second_of (hr.mono (by decide)) (by rfl) passD (pa_cons (pe_ix ix_seq (pv 0) (pv 8) (fun _ _ => rfl)) (pa_cons (pv 7) pa_nil))) (pv 8) rfl)
    (pss_one (ps_expr (pe_bm PySem.F.plainAttrs_list PySem.F.slot_list_append PySem.F.type_list_append mt_append (pv 5) (pa_cons (px_cal c_second_of (hr.mono (by decide)) (by rfl) passD (pa_cons (pe_ix ix_seq (pv 0) (pv 8) (fun _ _ => rfl)) (pa_cons (pv 7) pa_nil))) pa_nil))))) pss_nil)))))))
    (pss_one (ps_ret (pv 3)))))))), bodyX h rfl ((ss_seq (ss_asg sd_dnew sg_name)
    (ss_seq (ss_for (si_list sd_var) sg_name (ss_dset sd_var sd_var (sd_negB sd_int)))
    (ss_seq (ss_asg (sd_cb sc_list (sd_cons sd_var sd_nil)) sg_name)
    (ss_seq (ss_asg sd_int sg_name)
    (ss_seq (ss_while (sd_test (sd_op sr_ltB sd_var (sd_cb sc_len (sd_cons sd_var sd_nil)))) (ss_seq (ss_asg (sd_op sr_ix sd_var sd_var) sg_name)
    (ss_seq (ss_aug sd_int)
    (ss_for (si_enum sd_var) (sgx_tup (sgs_cons sg_name (sgs_cons sg_name sgs_nil))) (ss_if (sd_and (sd_test (sd_op sr_eq sd_var sd_var)) (sd_tB (sd_dni (sx_call (sd_cons (sd_op sr_ix sd_var sd_var) (sd_cons sd_var sd_nil))) sd_var))) (ss_seq (ss_dset sd_var (sx_call (sd_cons (sd_op sr_ix sd_var sd_var) (sd_cons sd_var sd_nil))) sd_var)
    (ss_expr (sd_bm sm_append sd_var (sd_cons (sx_call (sd_cons (sd_op sr_ix sd_var sd_var) (sd_cons sd_var sd_nil))) sd_nil)))) ss_next)))))
    (ss_ret sd_var)))))))⟩))

abbrev s_chain_to : Stmt := top 30
theorem sc_chain_to : FnScope ["tasks", "came", "person", "found"] ["tasks", "came", "person"] (defScope s_chain_to) := ⟨rfl, rfl, rfl, by decide +kernel, rfl, by decide +kernel, by decide +kernel⟩
theorem ok_chain_to {f : Addr} {fd : FuncData} (F : Fun g.K "chain_to" "chain_to" s_chain_to f fd) (T : Tx g mg) (c_second_of : Cal P w g.K mg base (CXN P w) 1 "second_of" ["task", "who"] (iSpX g i_second_of)) : FnOk P w g.K mg base (CXN P w) 2 f fd ["tasks", "came", "person"] (iSpX g i_chain_to) :=
  gc_ok (okN F sc_chain_to (iSpX_len rfl) (fun cdv AA outer s H vs Q E hr h => ⟨_, (pss_cons (ps_set (i := 3) sc_chain_to.nd rfl (by first | exact Or.inl rfl | exact Or.inr rfl) (pe_lst pa_nil))
    (pss_cons (ps_while ownD (pt_cmpR op_ge (pe_dget (hu_of hr) (pv 1) (pv 2) (fun _ _ => rfl)) pe_int (nomark _)) (pss_cons (ps_expr (pe_bm PySem.F.plainAttrs_list PySem.F.slot_list_append PySem.F.type_list_append mt_append (pv 3) (pa_cons (pe_dget (hu_of hr) (pv 1) (pv 2) (fun _ _ => rfl)) pa_nil)))
    (pss_one (ps_set (i := 2) sc_chain_to.nd rfl (by first | exact Or.inl rfl | exact Or.inr rfl) (px_cal c_second_of (hr.mono (by decide)) (by rfl) passD (pa_cons (pe_ix ix_seq (pv 0) (pe_dget (hu_of hr) (pv 1) (pv 2) (fun _ _ => rfl)) (fun _ _ => rfl)) (pa_cons (pv 2) pa_nil)))))))
    (pss_one (ps_ret (pe_revL (pv 3)))))), bodyX h rfl ((ss_seq (ss_asg (sd_lst 0 len_nil (by decide) sd_nil) sg_name)
    (ss_seq (ss_while (sd_test (sd_op sr_geB (sd_dget sd_var sd_var) sd_int)) (ss_seq (ss_expr (sd_bm sm_append sd_var (sd_cons (sd_dget sd_var sd_var) sd_nil)))
    (ss_asg (sx_call (sd_cons (sd_op sr_ix sd_var (sd_dget sd_var sd_var)) (sd_cons sd_var sd_nil))) sg_name)))
    (ss_ret (sd_rev sd_var)))))⟩))

abbrev s_share : Stmt := top 31
theorem sc_share : FnScope ["people", "tasks", "limits", "sharing", "loads", "task", "came", "free", "chain", "first", "at", "one"] ["people", "tasks", "limits"] (defScope s_share) := ⟨rfl, rfl, rfl, by decide +kernel, rfl, by decide +kernel, by decide +kernel⟩
theorem ok_share {f : Addr} {fd : FuncData} (F : Fun g.K "share" "share" s_share f fd) (T : Tx g mg) (c_came_from : Cal P w g.K mg base (CXN P w) 2 "came_from" ["tasks", "sharing", "begins"] (iSpX g i_came_from)) (c_chain_to : Cal P w g.K mg base (CXN P w) 2 "chain_to" ["tasks", "came", "person"] (iSpX g i_chain_to)) (c_second_of : Cal P w g.K mg base (CXN P w) 1 "second_of" ["task", "who"] (iSpX g i_second_of)) : FnOk P w g.K mg base (CXN P w) 3 f fd ["people", "tasks", "limits"] (iSpX g i_share) :=
  gc_ok (okN F sc_share (iSpX_len rfl) (fun cdv AA outer s H vs Q E hr h => ⟨_, (pss_cons (ps_set (i := 3) sc_share.nd rfl (by first | exact Or.inl rfl | exact Or.inr rfl) (pe_lst pa_nil))
    (pss_cons (ps_set (i := 4) sc_share.nd rfl (by first | exact Or.inl rfl | exact Or.inr rfl) (pe_op op_MUL (pe_lst (pa_cons pe_int pa_nil)) (pv 0)))
    (pss_cons (ps_for ownD (by rfl) (pi_list (pv 1)) (pg_name (i := 5) sc_share.nd rfl (by first | exact Or.inl rfl | exact Or.inr rfl)) (pss_cons (ps_set (i := 6) sc_share.nd rfl (by first | exact Or.inl rfl | exact Or.inr rfl) (px_cal c_came_from (hr.mono (by decide)) (by rfl) passD (pa_cons (pv 1) (pa_cons (pv 3) (pa_cons (pe_callTy call_LIST (by rfl) T.b.list (by decide +kernel) (pa_cons (pv 5) pa_nil)) pa_nil)))))
    (pss_cons (ps_lock (ps_setLc (i := 7) (own := [("one", 11)]) (by rfl) sc_share.nd rfl rfl (sw_true rfl rfl rfl (by decide +kernel)) (pi_keys (pv 6)) (blkOk_by (own := [("one", 11)]) (N := ["people", "tasks", "limits", "sharing", "loads", "task", "came", "free", "chain", "first", "at", "one"]) (sc := defScope s_share) (by decide +kernel)) (fun _ _ _ _ _ => (pg_name (i := 11) sc_share.nd rfl (by first | exact Or.inl rfl | exact Or.inr rfl))) (fun _ _ _ _ _ => (pts_one (pt_cmpR op_lt (pe_ix ix_seq (pv 4) (pv 11) (fun _ _ => rfl)) (pe_ix ix_seq (pv 2) (pv 11) (fun _ _ => rfl)) (nomark _)))) (fun _ _ _ _ _ => (pv 11))))
    (pss_cons (ps_if (pt_cmpR (op_eqD hr.units) (pv 7) (pe_lst pa_nil) (nomark _)) (pss_one (ps_ret (pe_tup (pa_cons (pv 3) (pa_cons (pe_callB (call_SORTD rfl) (by rfl) T.b.sorted (by decide +kernel) (pa_cons (pv 6) pa_nil)) pa_nil))))) pss_nil)
    (pss_cons (ps_set (i := 8) sc_share.nd rfl (by first | exact Or.inl rfl | exact Or.inr rfl) (px_cal c_chain_to (hr.mono (by decide)) (by rfl) passD (pa_cons (pv 1) (pa_cons (pv 6) (pa_cons (pe_ix ix_seq (pv 7) pe_int (fun _ _ => rfl)) pa_nil)))))
    (pss_cons (ps_set (i := 9) sc_share.nd rfl (by first | exact Or.inl rfl | exact Or.inr rfl) (pe_ifExp (pt_cmpR (op_neD hr.units) (pv 8) (pe_lst pa_nil) (nomark _)) (pe_ix ix_seq (pv 3) (pe_ix ix_seq (pv 8) pe_int (fun _ _ => rfl)) (fun _ _ => rfl)) (pe_ix ix_seq (pv 7) pe_int (fun _ _ => rfl))))
    (pss_cons (ps_for ownD (by rfl) (pi_list (pv 8)) (pg_name (i := 10) sc_share.nd rfl (by first | exact Or.inl rfl | exact Or.inr rfl)) (pss_one (ps_asg (px_cal c_second_of (hr.mono (by decide)) (by rfl) passD (pa_cons (pe_ix ix_seq (pv 1) (pv 10) (fun _ _ => rfl)) (pa_cons (pe_ix ix_seq (pv 3) (pv 10) (fun _ _ => rfl)) pa_nil))) (pg_sub (pv 3) (pv 10) set_list))))
    (pss_cons (ps_expr (pe_bm PySem.F.plainAttrs_list PySem.F.slot_list_append PySem.F.type_list_append mt_append (pv 3) (pa_cons (pv 9) pa_nil)))
    (pss_one (ps_augS (pv 4) (pe_ix ix_seq (pv 7) pe_int (fun _ _ => rfl)) get_LIST pe_int ip_add set_list))))))))))
    (pss_one (ps_ret (pe_tup (pa_cons (pv 3) (pa_cons (pe_lst pa_nil) pa_nil)))))))), bodyX h rfl ((ss_seq (ss_asg (sd_lst 0 len_nil (by decide) sd_nil) sg_name)
    (ss_seq (ss_asg (sd_op sr_mul (sd_lst 1 (len_cons len_nil) (by decide) (sd_cons sd_int sd_nil)) sd_var) sg_name)
    (ss_seq (ss_for (si_list sd_var) sg_name (ss_seq (ss_asg (sx_call (sd_cons sd_var (sd_cons sd_var (sd_cons (sd_cb sc_list (sd_cons sd_var sd_nil)) sd_nil)))) sg_name)
    (ss_seq (ss_lockLc (sd_lcK sg_name (wp_name (by simp)) (sd_test (sd_op sr_ltB (sd_op sr_ix sd_var sd_var) (sd_op sr_ix sd_var sd_var))) sd_var))
    (ss_seq (ss_if (sd_test (sd_op sr_eq sd_var (sd_lst 0 len_nil (by decide) sd_nil))) (ss_ret (sd_tup 2 (len_cons (len_cons len_nil)) (by decide) (sd_cons sd_var (sd_cons (sd_cb sc_sortedD (sd_cons sd_var sd_nil)) sd_nil)))) ss_next)
    (ss_seq (ss_asg (sx_call (sd_cons sd_var (sd_cons sd_var (sd_cons (sd_op sr_ix sd_var sd_int) sd_nil)))) sg_name)
    (ss_seq (ss_asg (sd_if (sd_test (sd_op sr_ne sd_var (sd_lst 0 len_nil (by decide) sd_nil))) (sd_op sr_ix sd_var (sd_op sr_ix sd_var sd_int)) (sd_op sr_ix sd_var sd_int)) sg_name)
    (ss_seq (ss_for (si_list sd_var) sg_name (ss_asg (sx_call (sd_cons (sd_op sr_ix sd_var sd_var) (sd_cons (sd_op sr_ix sd_var sd_var) sd_nil))) (sg_sub sd_var sd_var)))
    (ss_seq (ss_expr (sd_bm sm_append sd_var (sd_cons sd_var sd_nil)))
    (ss_augS sd_var (sd_op sr_ix sd_var sd_int) sd_int)))))))))
    (ss_ret (sd_tup 2 (len_cons (len_cons len_nil)) (by decide) (sd_cons sd_var (sd_cons (sd_lst 0 len_nil (by decide) sd_nil) sd_nil))))))))⟩))

abbrev s_shared : Stmt := top 32
theorem sc_shared : FnScope ["people", "tasks", "limits", "sharing", "some"] ["people", "tasks", "limits"] (defScope s_shared) := ⟨rfl, rfl, rfl, by decide +kernel, rfl, by decide +kernel, by decide +kernel⟩
theorem ok_shared {f : Addr} {fd : FuncData} (F : Fun g.K "shared" "shared" s_shared f fd) (T : Tx g mg) (c_check_tasks : Cal P w g.K mg base (CXN P w) 3 "check_tasks" ["people", "tasks"] (iSpX g i_check_tasks)) (c_check_limits : Cal P w g.K mg base (CXN P w) 2 "check_limits" ["people", "limits"] (iSpX g i_check_limits)) (c_share : Cal P w g.K mg base (CXN P w) 3 "share" ["people", "tasks", "limits"] (iSpX g i_share)) (m_Shared : MkcX P w g.K mg base 1 "Shared" (g.γ "Shared") ["self", "sharing"] (iSpX g i_Shared_init)) (m_Crowd : MkcX P w g.K mg base 1 "Crowd" (g.γ "Crowd") ["self", "some"] (iSpX g i_Crowd_init)) : FnOk P w g.K mg base (CXN P w) 4 f fd ["people", "tasks", "limits"] (iSpX g i_shared) :=
  gc_ok (okN F sc_shared (iSpX_len rfl) (fun cdv AA outer s H vs Q E hr h => ⟨_, (pss_cons (ps_expr (px_cal c_check_tasks (hr.mono (by decide)) (by rfl) passD (pa_cons (pv 0) (pa_cons (pv 1) pa_nil))))
    (pss_cons (ps_expr (px_cal c_check_limits (hr.mono (by decide)) (by rfl) passD (pa_cons (pv 0) (pa_cons (pv 2) pa_nil))))
    (pss_cons (ps_asg (px_cal c_share (hr.mono (by decide)) (by rfl) passD (pa_cons (pv 0) (pa_cons (pv 1) (pa_cons (pv 2) pa_nil)))) (pg_tup rfl (pgs_cons (pg_name (i := 3) sc_shared.nd rfl (by first | exact Or.inl rfl | exact Or.inr rfl)) (pgs_cons (pg_name (i := 4) sc_shared.nd rfl (by first | exact Or.inl rfl | exact Or.inr rfl)) pgs_nil))))
    (pss_one (ps_ret (pe_ifExp (pt_cmpR (op_eqD hr.units) (pv 4) (pe_lst pa_nil) (nomark _)) (px_mkc m_Shared (hr.mono (by decide)) (by rfl) passD (pa_cons (pv 3) pa_nil)) (px_mkc m_Crowd (hr.mono (by decide)) (by rfl) passD (pa_cons (pv 4) pa_nil)))))))), bodyX h rfl ((ss_seq (ss_expr (sx_call (sd_cons sd_var (sd_cons sd_var sd_nil))))
    (ss_seq (ss_expr (sx_call (sd_cons sd_var (sd_cons sd_var sd_nil))))
    (ss_seq (ss_asg (sx_call (sd_cons sd_var (sd_cons sd_var (sd_cons sd_var sd_nil)))) (sgx_tup (sgs_cons sg_name (sgs_cons sg_name sgs_nil))))
    (ss_ret (sd_if (sd_test (sd_op sr_eq sd_var (sd_lst 0 len_nil (by decide) sd_nil))) (sx_make rfl (sd_cons sd_var sd_nil)) (sx_make rfl (sd_cons sd_var sd_nil))))))))⟩))

abbrev s_evenest : Stmt := top 33
theorem sc_evenest : FnScope ["people", "tasks", "most", "crowd", "sharing", "some"] ["people", "tasks"] (defScope s_evenest) := ⟨rfl, rfl, rfl, by decide +kernel, rfl, by decide +kernel, by decide +kernel⟩
theorem ok_evenest {f : Addr} {fd : FuncData} (F : Fun g.K "evenest" "evenest" s_evenest f fd) (T : Tx g mg) (c_check_tasks : Cal P w g.K mg base (CXN P w) 3 "check_tasks" ["people", "tasks"] (iSpX g i_check_tasks)) (c_share : Cal P w g.K mg base (CXN P w) 3 "share" ["people", "tasks", "limits"] (iSpX g i_share)) (m_Even : MkcX P w g.K mg base 1 "Even" (g.γ "Even") ["self", "sharing", "some"] (iSpX g i_Even_init)) : FnOk P w g.K mg base (CXN P w) 4 f fd ["people", "tasks"] (iSpX g i_evenest) :=
  gc_ok (okN F sc_evenest (iSpX_len rfl) (fun cdv AA outer s H vs Q E hr h => ⟨_, (pss_cons (ps_expr (px_cal c_check_tasks (hr.mono (by decide)) (by rfl) passD (pa_cons (pv 0) (pa_cons (pv 1) pa_nil))))
    (pss_cons (ps_set (i := 2) sc_evenest.nd rfl (by first | exact Or.inl rfl | exact Or.inr rfl) pe_int)
    (pss_cons (ps_set (i := 3) sc_evenest.nd rfl (by first | exact Or.inl rfl | exact Or.inr rfl) (pe_lst pa_nil))
    (pss_cons (ps_asg (px_cal c_share (hr.mono (by decide)) (by rfl) passD (pa_cons (pv 0) (pa_cons (pv 1) (pa_cons (pe_op op_MUL (pe_lst (pa_cons pe_int pa_nil)) (pv 0)) pa_nil)))) (pg_tup rfl (pgs_cons (pg_name (i := 4) sc_evenest.nd rfl (by first | exact Or.inl rfl | exact Or.inr rfl)) (pgs_cons (pg_name (i := 5) sc_evenest.nd rfl (by first | exact Or.inl rfl | exact Or.inr rfl)) pgs_nil))))
    (pss_cons (ps_while ownD (pt_cmpR (op_neD hr.units) (pv 5) (pe_lst pa_nil) (nomark _)) (pss_cons (ps_set (i := 3) sc_evenest.nd rfl (by first | exact Or.inl rfl | exact Or.inr rfl) (pv 5))
    (pss_cons (ps_aug (i := 2) sc_evenest.nd rfl (by first | exact Or.inl rfl | exact Or.inr rfl) pe_int ip_add)
    (pss_one (ps_asg (px_cal c_share (hr.mono (by decide)) (by rfl) passD (pa_cons (pv 0) (pa_cons (pv 1) (pa_cons (pe_op op_MUL (pe_lst (pa_cons (pv 2) pa_nil)) (pv 0)) pa_nil)))) (pg_tup rfl (pgs_cons (pg_name (i := 4) sc_evenest.nd rfl (by first | exact Or.inl rfl | exact Or.inr rfl)) (pgs_cons (pg_name (i := 5) sc_evenest.nd rfl (by first | exact Or.inl rfl | exact Or.inr rfl)) pgs_nil))))))))
    (pss_one (ps_ret (px_mkc m_Even (hr.mono (by decide)) (by rfl) passD (pa_cons (pv 4) (pa_cons (pv 3) pa_nil)))))))))), bodyX h rfl ((ss_seq (ss_expr (sx_call (sd_cons sd_var (sd_cons sd_var sd_nil))))
    (ss_seq (ss_asg sd_int sg_name)
    (ss_seq (ss_asg (sd_lst 0 len_nil (by decide) sd_nil) sg_name)
    (ss_seq (ss_asg (sx_call (sd_cons sd_var (sd_cons sd_var (sd_cons (sd_op sr_mul (sd_lst 1 (len_cons len_nil) (by decide) (sd_cons sd_int sd_nil)) sd_var) sd_nil)))) (sgx_tup (sgs_cons sg_name (sgs_cons sg_name sgs_nil))))
    (ss_seq (ss_while (sd_test (sd_op sr_ne sd_var (sd_lst 0 len_nil (by decide) sd_nil))) (ss_seq (ss_asg sd_var sg_name)
    (ss_seq (ss_aug sd_int)
    (ss_asg (sx_call (sd_cons sd_var (sd_cons sd_var (sd_cons (sd_op sr_mul (sd_lst 1 (len_cons len_nil) (by decide) (sd_cons sd_var sd_nil)) sd_var) sd_nil)))) (sgx_tup (sgs_cons sg_name (sgs_cons sg_name sgs_nil)))))))
    (ss_ret (sx_make rfl (sd_cons sd_var (sd_cons sd_var sd_nil))))))))))⟩))

abbrev s_passed : Stmt := top 35
theorem sc_passed : FnScope ["people", "tasks", "sharing", "one", "other", "person", "came"] ["people", "tasks", "sharing", "one", "other"] (defScope s_passed) := ⟨rfl, rfl, rfl, by decide +kernel, rfl, by decide +kernel, by decide +kernel⟩
theorem ok_passed {f : Addr} {fd : FuncData} (F : Fun g.K "passed" "passed" s_passed f fd) (T : Tx g mg) (c_check_tasks : Cal P w g.K mg base (CXN P w) 3 "check_tasks" ["people", "tasks"] (iSpX g i_check_tasks)) (c_check_sharing : Cal P w g.K mg base (CXN P w) 3 "check_sharing" ["tasks", "sharing"] (iSpX g i_check_sharing)) (c_is_number : Cal P w g.K mg base (CXN P w) 1 "is_number" ["thing", "least"] (iSpX g i_is_number)) (c_came_from : Cal P w g.K mg base (CXN P w) 2 "came_from" ["tasks", "sharing", "begins"] (iSpX g i_came_from)) (m_Side : MkcX P w g.K mg base 1 "Side" (g.γ "Side") ["self", "some"] (iSpX g i_Side_init)) (m_Chain : MkcX P w g.K mg base 1 "Chain" (g.γ "Chain") ["self", "tasks"] (iSpX g i_Chain_init)) (c_chain_to : Cal P w g.K mg base (CXN P w) 2 "chain_to" ["tasks", "came", "person"] (iSpX g i_chain_to)) : FnOk P w g.K mg base (CXN P w) 4 f fd ["people", "tasks", "sharing", "one", "other"] (iSpX g i_passed) :=
  gc_ok (okN F sc_passed (iSpX_len rfl) (fun cdv AA outer s H vs Q E hr h => ⟨_, (pss_cons (ps_expr (px_cal c_check_tasks (hr.mono (by decide)) (by rfl) passD (pa_cons (pv 0) (pa_cons (pv 1) pa_nil))))
    (pss_cons (ps_expr (px_cal c_check_sharing (hr.mono (by decide)) (by rfl) passD (pa_cons (pv 1) (pa_cons (pv 2) pa_nil))))
    (pss_cons (ps_for ownD (by rfl) (pi_tup (pe_tup (pa_cons (pv 3) (pa_cons (pv 4) pa_nil)))) (pg_name (i := 5) sc_passed.nd rfl (by first | exact Or.inl rfl | exact Or.inr rfl)) (pss_one (ps_if (pw_or (pt_not (pt_truth (px_cal c_is_number (hr.mono (by decide)) (by rfl) passD (pa_cons (pv 5) (pa_cons pe_int pa_nil))) (fun _ => rfl))) (pw_or1 (pt_cmpR op_ge (pv 5) (pv 0) (nomark _)))).pt (pss_one (L2N.ps_raise rfl takesD (L2N.pmk_own PySem.F.excBase_ValueError T.x_BadPerson T.g_BadPerson T.k_BadPerson (raises_own T.b_BadPerson T.t_BadPerson) (by exact rfl)))) pss_nil)))
    (pss_cons (ps_if (pt_cmpR (op_eqD hr.units) (pv 3) (pv 4) (nomark _)) (pss_one (L2N.ps_raise rfl takesD (L2N.pmk_own PySem.F.excBase_ValueError T.x_BadPerson T.g_BadPerson T.k_BadPerson (raises_own T.b_BadPerson T.t_BadPerson) (by exact rfl)))) pss_nil)
    (pss_cons (ps_set (i := 6) sc_passed.nd rfl (by first | exact Or.inl rfl | exact Or.inr rfl) (px_cal c_came_from (hr.mono (by decide)) (by rfl) passD (pa_cons (pv 1) (pa_cons (pv 2) (pa_cons (pe_lst (pa_cons (pv 3) pa_nil)) pa_nil)))))
    (pss_cons (ps_if (pt_cmp (pc_dnotin (hu_of hr) (pv 4) (pv 6)) rfl) (pss_one (ps_ret (px_mkc m_Side (hr.mono (by decide)) (by rfl) passD (pa_cons (pe_callB (call_SORTD rfl) (by rfl) T.b.sorted (by decide +kernel) (pa_cons (pv 6) pa_nil)) pa_nil)))) pss_nil)
    (pss_one (ps_ret (px_mkc m_Chain (hr.mono (by decide)) (by rfl) passD (pa_cons (px_cal c_chain_to (hr.mono (by decide)) (by rfl) passD (pa_cons (pv 1) (pa_cons (pv 6) (pa_cons (pv 4) pa_nil)))) pa_nil)))))))))), bodyX h rfl ((ss_seq (ss_expr (sx_call (sd_cons sd_var (sd_cons sd_var sd_nil))))
    (ss_seq (ss_expr (sx_call (sd_cons sd_var (sd_cons sd_var sd_nil))))
    (ss_seq (ss_for (si_tup (sd_tup 2 (len_cons (len_cons len_nil)) (by decide) (sd_cons sd_var (sd_cons sd_var sd_nil)))) sg_name (ss_if (sd_or (sd_not (sd_tru (sx_call (sd_cons sd_var (sd_cons sd_int sd_nil))))) (sd_test (sd_op sr_geB sd_var sd_var))) (sx_raise rfl) ss_next))
    (ss_seq (ss_if (sd_test (sd_op sr_eq sd_var sd_var)) (sx_raise rfl) ss_next)
    (ss_seq (ss_asg (sx_call (sd_cons sd_var (sd_cons sd_var (sd_cons (sd_lst 1 (len_cons len_nil) (by decide) (sd_cons sd_var sd_nil)) sd_nil)))) sg_name)
    (ss_seq (ss_if (sd_tB (sd_dni sd_var sd_var)) (ss_ret (sx_make rfl (sd_cons (sd_cb sc_sortedD (sd_cons sd_var sd_nil)) sd_nil))) ss_next)
    (ss_ret (sx_make rfl (sd_cons (sx_call (sd_cons sd_var (sd_cons sd_var (sd_cons sd_var sd_nil)))) sd_nil))))))))))⟩))

abbrev s_rings_from : Stmt := top 37
theorem sc_rings_from : FnScope ["person", "giving", "another", "found", "way", "here", "met", "at", "first"] ["person", "giving", "another"] (defScope s_rings_from) := ⟨rfl, rfl, rfl, by decide +kernel, rfl, by decide +kernel, by decide +kernel⟩
theorem ok_rings_from {f : Addr} {fd : FuncData} (F : Fun g.K "rings_from" "rings_from" s_rings_from f fd) (T : Tx g mg) : FnOk P w g.K mg base (CXN P w) 1 f fd ["person", "giving", "another"] (iSpX g i_rings_from) :=
  gc_ok (okN F sc_rings_from (iSpX_len rfl) (fun cdv AA outer s H vs Q E hr h => ⟨_, (pss_cons (ps_set (i := 3) sc_rings_from.nd rfl (by first | exact Or.inl rfl | exact Or.inr rfl) (pe_lst pa_nil))
    (pss_cons (ps_set (i := 4) sc_rings_from.nd rfl (by first | exact Or.inl rfl | exact Or.inr rfl) (pe_lst pa_nil))
    (pss_cons (ps_set (i := 5) sc_rings_from.nd rfl (by first | exact Or.inl rfl | exact Or.inr rfl) (pv 0))
    (pss_cons (ps_set (i := 6) sc_rings_from.nd rfl (by first | exact Or.inl rfl | exact Or.inr rfl) (pe_lst (pa_cons (pv 0) pa_nil)))
    (pss_cons (ps_while ownD (pw_or (pt_cmpR (op_neD hr.units) (pe_ix ix_seq (pv 1) (pv 5) (fun _ _ => rfl)) (pe_lst pa_nil) (nomark _)) (pw_or1 (pt_cmpR (op_neD hr.units) (pv 4) (pe_lst pa_nil) (nomark _)))).pt (pss_cons (ps_set (i := 7) sc_rings_from.nd rfl (by first | exact Or.inl rfl | exact Or.inr rfl) (pe_bm0 PySem.F.plainAttrs_list PySem.F.slot_list_pop PySem.F.type_list_pop mt_pop (pe_ix ix_seq (pv 1) (pv 5) (fun _ _ => rfl))))
    (pss_cons (ps_expr (pe_bm PySem.F.plainAttrs_list PySem.F.slot_list_append PySem.F.type_list_append mt_append (pv 4) (pa_cons (pv 7) pa_nil)))
    (pss_cons (ps_set (i := 5) sc_rings_from.nd rfl (by first | exact Or.inl rfl | exact Or.inr rfl) (pe_ix ix_seq (pv 2) (pv 7) (fun _ _ => rfl)))
    (pss_one (ps_if (pt_cmpR op_in_seq (pv 5) (pv 6) rfl) (pss_cons (ps_set (i := 8) sc_rings_from.nd rfl (by first | exact Or.inl rfl | exact Or.inr rfl) (pe_bm PySem.F.plainAttrs_list PySem.F.slot_list_index PySem.F.type_list_index mt_index (pv 6) (pa_cons (pv 5) pa_nil)))
    (pss_cons (ps_expr (pe_bm PySem.F.plainAttrs_list PySem.F.slot_list_append PySem.F.type_list_append mt_append (pv 3) (pa_cons (pe_slice sl_list (pv 4) (po_some (pv 8)) po_none) pa_nil)))
    (pss_cons (ps_set (i := 4) sc_rings_from.nd rfl (by first | exact Or.inl rfl | exact Or.inr rfl) (pe_slice sl_list (pv 4) po_none (po_some (pv 8))))
    (pss_one (ps_set (i := 6) sc_rings_from.nd rfl (by first | exact Or.inl rfl | exact Or.inr rfl) (pe_slice sl_list (pv 6) po_none (po_some (pe_op op_ADD (pv 8) pe_int)))))))) (pss_one (ps_expr (pe_bm PySem.F.plainAttrs_list PySem.F.slot_list_append PySem.F.type_list_append mt_append (pv 6) (pa_cons (pv 5) pa_nil))))))))))
    (pss_one (ps_ret (pv 3)))))))), bodyX h rfl ((ss_seq (ss_asg (sd_lst 0 len_nil (by decide) sd_nil) sg_name)
    (ss_seq (ss_asg (sd_lst 0 len_nil (by decide) sd_nil) sg_name)
    (ss_seq (ss_asg sd_var sg_name)
    (ss_seq (ss_asg (sd_lst 1 (len_cons len_nil) (by decide) (sd_cons sd_var sd_nil)) sg_name)
    (ss_seq (ss_while (sd_or (sd_test (sd_op sr_ne (sd_op sr_ix sd_var sd_var) (sd_lst 0 len_nil (by decide) sd_nil))) (sd_test (sd_op sr_ne sd_var (sd_lst 0 len_nil (by decide) sd_nil)))) (ss_seq (ss_asg (sd_bm0 sm_pop (sd_op sr_ix sd_var sd_var)) sg_name)
    (ss_seq (ss_expr (sd_bm sm_append sd_var (sd_cons sd_var sd_nil)))
    (ss_seq (ss_asg (sd_op sr_ix sd_var sd_var) sg_name)
    (ss_if (sd_test (sd_op sr_in sd_var sd_var)) (ss_seq (ss_asg (sd_bm sm_index sd_var (sd_cons sd_var sd_nil)) sg_name)
    (ss_seq (ss_expr (sd_bm sm_append sd_var (sd_cons (sd_sl sd_var (so_some sd_var) so_none) sd_nil)))
    (ss_seq (ss_asg (sd_sl sd_var so_none (so_some sd_var)) sg_name)
    (ss_asg (sd_sl sd_var so_none (so_some (sd_op sr_add sd_var sd_int))) sg_name)))) (ss_expr (sd_bm sm_append sd_var (sd_cons sd_var sd_nil))))))))
    (ss_ret sd_var)))))))⟩))

abbrev s_rings : Stmt := top 36
theorem sc_rings : FnScope ["people", "tasks", "sharing", "another", "giving", "at", "who", "found", "person"] ["people", "tasks", "sharing", "another"] (defScope s_rings) := ⟨rfl, rfl, rfl, by decide +kernel, rfl, by decide +kernel, by decide +kernel⟩
theorem ok_rings {f : Addr} {fd : FuncData} (F : Fun g.K "rings" "rings" s_rings f fd) (T : Tx g mg) (c_check_tasks : Cal P w g.K mg base (CXN P w) 3 "check_tasks" ["people", "tasks"] (iSpX g i_check_tasks)) (c_check_sharing : Cal P w g.K mg base (CXN P w) 3 "check_sharing" ["tasks", "sharing"] (iSpX g i_check_sharing)) (c_loads_of : Cal P w g.K mg base (CXN P w) 1 "loads_of" ["people", "sharing"] (iSpX g i_loads_of)) (c_rings_from : Cal P w g.K mg base (CXN P w) 1 "rings_from" ["person", "giving", "another"] (iSpX g i_rings_from)) : FnOk P w g.K mg base (CXN P w) 4 f fd ["people", "tasks", "sharing", "another"] (iSpX g i_rings) :=
  gc_ok (okN F sc_rings (iSpX_len rfl) (fun cdv AA outer s H vs Q E hr h => ⟨_, (pss_cons (ps_expr (px_cal c_check_tasks (hr.mono (by decide)) (by rfl) passD (pa_cons (pv 0) (pa_cons (pv 1) pa_nil))))
    (pss_cons (ps_expr (px_cal c_check_sharing (hr.mono (by decide)) (by rfl) passD (pa_cons (pv 1) (pa_cons (pv 2) pa_nil))))
    (pss_cons (ps_expr (px_cal c_check_sharing (hr.mono (by decide)) (by rfl) passD (pa_cons (pv 1) (pa_cons (pv 3) pa_nil))))
    (pss_cons (ps_if (pt_cmpR (op_neD hr.units) (px_cal c_loads_of (hr.mono (by decide)) (by rfl) passD (pa_cons (pv 0) (pa_cons (pv 2) pa_nil))) (px_cal c_loads_of (hr.mono (by decide)) (by rfl) passD (pa_cons (pv 0) (pa_cons (pv 3) pa_nil))) (nomark _)) (pss_one (L2N.ps_raise rfl takesD (L2N.pmk_own PySem.F.excBase_ValueError T.x_Unlike T.g_Unlike T.k_Unlike (raises_own T.b_Unlike T.t_Unlike) (by exact rfl)))) pss_nil)
    (pss_cons (ps_setLc (i := 4) (own := [("person", 8)]) (by rfl) sc_rings.nd rfl rfl (sw_true rfl rfl rfl (by decide +kernel)) (pi_range1 (by rfl) T.b.range (pa_cons (pv 0) pa_nil)) (blkOk_by (own := [("person", 8)]) (N := ["people", "tasks", "sharing", "another", "giving", "at", "who", "found", "person"]) (sc := defScope s_rings) (by decide +kernel)) (fun _ _ _ _ _ => (pg_name (i := 8) sc_rings.nd rfl (by first | exact Or.inl rfl | exact Or.inr rfl))) (fun _ _ _ _ _ => pts_nil) (fun _ _ _ _ _ => (pe_lst pa_nil)))
    (pss_cons (ps_for ownD (by rfl) (pi_enum (by rfl) T.b.enumerate (pa_cons (pv 2) pa_nil)) (pg_tup rfl (pgs_cons (pg_name (i := 5) sc_rings.nd rfl (by first | exact Or.inl rfl | exact Or.inr rfl)) (pgs_cons (pg_name (i := 6) sc_rings.nd rfl (by first | exact Or.inl rfl | exact Or.inr rfl)) pgs_nil))) (pss_one (ps_if (pt_cmpR (op_neD hr.units) (pe_ix ix_seq (pv 3) (pv 5) (fun _ _ => rfl)) (pv 6) (nomark _)) (pss_one (ps_expr (pe_bm PySem.F.plainAttrs_list PySem.F.slot_list_append PySem.F.type_list_append mt_append (pe_ix ix_seq (pv 4) (pv 6) (fun _ _ => rfl)) (pa_cons (pv 5) pa_nil)))) pss_nil)))
    (pss_cons (ps_set (i := 7) sc_rings.nd rfl (by first | exact Or.inl rfl | exact Or.inr rfl) (pe_lst pa_nil))
    (pss_cons (ps_for ownD (by rfl) (pi_range1 (by rfl) T.b.range (pa_cons (pv 0) pa_nil)) (pg_name (i := 8) sc_rings.nd rfl (by first | exact Or.inl rfl | exact Or.inr rfl)) (pss_one (ps_while ownD (pt_cmpR (op_neD hr.units) (pe_ix ix_seq (pv 4) (pv 8) (fun _ _ => rfl)) (pe_lst pa_nil) (nomark _)) (pss_one (ps_expr (pe_bm PySem.F.plainAttrs_list PySem.F.slot_list_extend PySem.F.type_list_extend mt_extend (pv 7) (pa_cons (px_cal c_rings_from (hr.mono (by decide)) (by rfl) passD (pa_cons (pv 8) (pa_cons (pv 4) (pa_cons (pv 3) pa_nil)))) pa_nil)))))))
    (pss_one (ps_ret (pv 7))))))))))), bodyX h rfl ((ss_seq (ss_expr (sx_call (sd_cons sd_var (sd_cons sd_var sd_nil))))
    (ss_seq (ss_expr (sx_call (sd_cons sd_var (sd_cons sd_var sd_nil))))
    (ss_seq (ss_expr (sx_call (sd_cons sd_var (sd_cons sd_var sd_nil))))
    (ss_seq (ss_if (sd_test (sd_op sr_ne (sx_call (sd_cons sd_var (sd_cons sd_var sd_nil))) (sx_call (sd_cons sd_var (sd_cons sd_var sd_nil))))) (sx_raise rfl) ss_next)
    (ss_seq (ss_asg (sd_lc (si_rng sd_var) sg_name (wp_name (by simp)) sd_yes (sd_lst 0 len_nil (by decide) sd_nil)) sg_name)
    (ss_seq (ss_for (si_enum sd_var) (sgx_tup (sgs_cons sg_name (sgs_cons sg_name sgs_nil))) (ss_if (sd_test (sd_op sr_ne (sd_op sr_ix sd_var sd_var) sd_var)) (ss_expr (sd_bm sm_append (sd_op sr_ix sd_var sd_var) (sd_cons sd_var sd_nil))) ss_next))
    (ss_seq (ss_asg (sd_lst 0 len_nil (by decide) sd_nil) sg_name)
    (ss_seq (ss_for (si_rng sd_var) sg_name (ss_while (sd_test (sd_op sr_ne (sd_op sr_ix sd_var sd_var) (sd_lst 0 len_nil (by decide) sd_nil))) (ss_expr (sd_bm sm_extend sd_var (sd_cons (sx_call (sd_cons sd_var (sd_cons sd_var (sd_cons sd_var sd_nil)))) sd_nil)))))
    (ss_ret sd_var))))))))))⟩))

theorem sc_lam0 : NdefX.NScope ["_law_one"] ["_law_one"] [] (lamT 0).scope := NdefX.nscope_by (by decide +kernel)
theorem lok_0 (T : Tx g mg) (c_loads : Cal P w g.K mg base (CXN P w) 4 "loads" ["people", "tasks", "sharing"] (iSpX g i_loads)) : LOk P w g.K mg base (CXN P w) 5 (lamT 0) ["_law_one"] (iSpL g i_lam0) :=
  lok_of sc_lam0 (fun _ _ _ _ us hl => match us, hl with | [_], _ => rfl) (iSpL_len rfl) (fun f c cl AA outer s H vs ws Q E hr hw h => ⟨_, (px_cal c_loads (hr.mono (by decide)) (by rfl) passLm (pa_cons (pv 0) (pa_cons pe_non (pa_cons pe_non pa_nil)))), bodyL h rfl ((sx_call (sd_cons sd_var (sd_cons sd_non (sd_cons sd_non sd_nil)))))⟩)

theorem sc_lam1 : NdefX.NScope ["_law_two"] ["_law_two"] [] (lamT 1).scope := NdefX.nscope_by (by decide +kernel)
theorem lok_1 (T : Tx g mg) (c_shared : Cal P w g.K mg base (CXN P w) 4 "shared" ["people", "tasks", "limits"] (iSpX g i_shared)) : LOk P w g.K mg base (CXN P w) 5 (lamT 1) ["_law_two"] (iSpL g i_lam1) :=
  lok_of sc_lam1 (fun _ _ _ _ us hl => match us, hl with | [_], _ => rfl) (iSpL_len rfl) (fun f c cl AA outer s H vs ws Q E hr hw h => ⟨_, (px_cal c_shared (hr.mono (by decide)) (by rfl) passLm (pa_cons pe_int (pa_cons (pv 0) (pa_cons pe_non pa_nil)))), bodyL h rfl ((sx_call (sd_cons sd_int (sd_cons sd_var (sd_cons sd_non sd_nil)))))⟩)

theorem sc_lam2 : NdefX.NScope ["_law_six", "_law_tasks"] ["_law_six"] ["_law_tasks"] (lamT 2).scope := NdefX.nscope_by (by decide +kernel)
theorem lok_2 (T : Tx g mg) (c_shared : Cal P w g.K mg base (CXN P w) 4 "shared" ["people", "tasks", "limits"] (iSpX g i_shared)) : LOk P w g.K mg base (CXN P w) 5 (lamT 2) ["_law_six"] (iSpL g i_lam2) :=
  lok_of sc_lam2 (fun _ _ _ _ us hl => match us, hl with | [_], _ => rfl) (iSpL_len rfl) (fun f c cl AA outer s H vs ws Q E hr hw h => ⟨_, (px_cal c_shared (hr.mono (by decide)) (by rfl) passLm (pa_cons pe_int (pa_cons (pv 1) (pa_cons (pv 0) pa_nil)))), bodyL h rfl ((sx_call (sd_cons sd_int (sd_cons sd_var (sd_cons sd_var sd_nil)))))⟩)

theorem sc_lam3 : NdefX.NScope ["_law_it"] ["_law_it"] [] (lamT 3).scope := NdefX.nscope_by (by decide +kernel)
theorem lok_3 (T : Tx g mg) (c_evenest : Cal P w g.K mg base (CXN P w) 4 "evenest" ["people", "tasks"] (iSpX g i_evenest)) : LOk P w g.K mg base (CXN P w) 5 (lamT 3) ["_law_it"] (iSpL g i_lam3) :=
  lok_of sc_lam3 (fun _ _ _ _ us hl => match us, hl with | [_], _ => rfl) (iSpL_len rfl) (fun f c cl AA outer s H vs ws Q E hr hw h => ⟨_, (px_cal c_evenest (hr.mono (by decide)) (by rfl) passLm (pa_cons pe_int (pa_cons (pv 0) pa_nil))), bodyL h rfl ((sx_call (sd_cons sd_int (sd_cons sd_var sd_nil))))⟩)

theorem sc_lam4 : NdefX.NScope ["_law_me", "_law_tasks"] ["_law_me"] ["_law_tasks"] (lamT 4).scope := NdefX.nscope_by (by decide +kernel)
theorem lok_4 (T : Tx g mg) (c_passed : Cal P w g.K mg base (CXN P w) 4 "passed" ["people", "tasks", "sharing", "one", "other"] (iSpX g i_passed)) : LOk P w g.K mg base (CXN P w) 5 (lamT 4) ["_law_me"] (iSpL g i_lam4) :=
  lok_of sc_lam4 (fun _ _ _ _ us hl => match us, hl with | [_], _ => rfl) (iSpL_len rfl) (fun f c cl AA outer s H vs ws Q E hr hw h => ⟨_, (px_cal c_passed (hr.mono (by decide)) (by rfl) passLm (pa_cons pe_int (pa_cons (pv 1) (pa_cons (pe_lst (pa_cons pe_int pa_nil)) (pa_cons pe_int (pa_cons pe_int pa_nil)))))), bodyL h rfl ((sx_call (sd_cons sd_int (sd_cons sd_var (sd_cons (sd_lst 1 (len_cons len_nil) (by decide) (sd_cons sd_int sd_nil)) (sd_cons sd_int (sd_cons sd_int sd_nil)))))))⟩)

theorem sc_lam5 : NdefX.NScope ["_law_us", "_law_tasks"] ["_law_us"] ["_law_tasks"] (lamT 5).scope := NdefX.nscope_by (by decide +kernel)
theorem lok_5 (T : Tx g mg) (c_passed : Cal P w g.K mg base (CXN P w) 4 "passed" ["people", "tasks", "sharing", "one", "other"] (iSpX g i_passed)) : LOk P w g.K mg base (CXN P w) 5 (lamT 5) ["_law_us"] (iSpL g i_lam5) :=
  lok_of sc_lam5 (fun _ _ _ _ us hl => match us, hl with | [_], _ => rfl) (iSpL_len rfl) (fun f c cl AA outer s H vs ws Q E hr hw h => ⟨_, (px_cal c_passed (hr.mono (by decide)) (by rfl) passLm (pa_cons pe_int (pa_cons (pv 1) (pa_cons (pe_lst (pa_cons pe_int pa_nil)) (pa_cons (pv 0) (pa_cons (pv 0) pa_nil)))))), bodyL h rfl ((sx_call (sd_cons sd_int (sd_cons sd_var (sd_cons (sd_lst 1 (len_cons len_nil) (by decide) (sd_cons sd_int sd_nil)) (sd_cons sd_var (sd_cons sd_var sd_nil)))))))⟩)

theorem sc_lam6 : NdefX.NScope ["_law_them", "_law_tasks"] ["_law_them"] ["_law_tasks"] (lamT 6).scope := NdefX.nscope_by (by decide +kernel)
theorem lok_6 (T : Tx g mg) (c_rings : Cal P w g.K mg base (CXN P w) 4 "rings" ["people", "tasks", "sharing", "another"] (iSpX g i_rings)) : LOk P w g.K mg base (CXN P w) 5 (lamT 6) ["_law_them"] (iSpL g i_lam6) :=
  lok_of sc_lam6 (fun _ _ _ _ us hl => match us, hl with | [_], _ => rfl) (iSpL_len rfl) (fun f c cl AA outer s H vs ws Q E hr hw h => ⟨_, (px_cal c_rings (hr.mono (by decide)) (by rfl) passLm (pa_cons pe_int (pa_cons (pv 1) (pa_cons (pe_lst (pa_cons pe_int pa_nil)) (pa_cons (pe_lst (pa_cons pe_int pa_nil)) pa_nil))))), bodyL h rfl ((sx_call (sd_cons sd_int (sd_cons sd_var (sd_cons (sd_lst 1 (len_cons len_nil) (by decide) (sd_cons sd_int sd_nil)) (sd_cons (sd_lst 1 (len_cons len_nil) (by decide) (sd_cons sd_int sd_nil)) sd_nil))))))⟩)

theorem sc_lam7 : NdefX.NScope ["_law_her", "_law_tasks"] ["_law_her"] ["_law_tasks"] (lamT 7).scope := NdefX.nscope_by (by decide +kernel)
theorem lok_7 (T : Tx g mg) (c_rings : Cal P w g.K mg base (CXN P w) 4 "rings" ["people", "tasks", "sharing", "another"] (iSpX g i_rings)) : LOk P w g.K mg base (CXN P w) 5 (lamT 7) ["_law_her"] (iSpL g i_lam7) :=
  lok_of sc_lam7 (fun _ _ _ _ us hl => match us, hl with | [_], _ => rfl) (iSpL_len rfl) (fun f c cl AA outer s H vs ws Q E hr hw h => ⟨_, (px_cal c_rings (hr.mono (by decide)) (by rfl) passLm (pa_cons pe_int (pa_cons (pv 1) (pa_cons (pv 0) (pa_cons (pe_lst (pa_cons pe_int pa_nil)) pa_nil))))), bodyL h rfl ((sx_call (sd_cons sd_int (sd_cons sd_var (sd_cons sd_var (sd_cons (sd_lst 1 (len_cons len_nil) (by decide) (sd_cons sd_int sd_nil)) sd_nil))))))⟩)

theorem sc_lam8 : NdefX.NScope ["_law_him", "_law_tasks"] ["_law_him"] ["_law_tasks"] (lamT 8).scope := NdefX.nscope_by (by decide +kernel)
theorem lok_8 (T : Tx g mg) (c_rings : Cal P w g.K mg base (CXN P w) 4 "rings" ["people", "tasks", "sharing", "another"] (iSpX g i_rings)) : LOk P w g.K mg base (CXN P w) 5 (lamT 8) ["_law_him"] (iSpL g i_lam8) :=
  lok_of sc_lam8 (fun _ _ _ _ us hl => match us, hl with | [_], _ => rfl) (iSpL_len rfl) (fun f c cl AA outer s H vs ws Q E hr hw h => ⟨_, (px_cal c_rings (hr.mono (by decide)) (by rfl) passLm (pa_cons pe_int (pa_cons (pv 1) (pa_cons (pe_lst (pa_cons pe_int pa_nil)) (pa_cons (pv 0) pa_nil))))), bodyL h rfl ((sx_call (sd_cons sd_int (sd_cons sd_var (sd_cons (sd_lst 1 (len_cons len_nil) (by decide) (sd_cons sd_int sd_nil)) (sd_cons sd_var sd_nil))))))⟩)

theorem sc_lam9 : NdefX.NScope ["_law_it", "_law_tasks"] ["_law_it"] ["_law_tasks"] (lamT 9).scope := NdefX.nscope_by (by decide +kernel)
theorem lok_9 (T : Tx g mg) (c_passed : Cal P w g.K mg base (CXN P w) 4 "passed" ["people", "tasks", "sharing", "one", "other"] (iSpX g i_passed)) : LOk P w g.K mg base (CXN P w) 5 (lamT 9) ["_law_it"] (iSpL g i_lam9) :=
  lok_of sc_lam9 (fun _ _ _ _ us hl => match us, hl with | [_], _ => rfl) (iSpL_len rfl) (fun f c cl AA outer s H vs ws Q E hr hw h => ⟨_, (px_cal c_passed (hr.mono (by decide)) (by rfl) passLm (pa_cons pe_int (pa_cons (pv 1) (pa_cons (pe_lst (pa_cons pe_int pa_nil)) (pa_cons pe_int (pa_cons (pv 0) pa_nil)))))), bodyL h rfl ((sx_call (sd_cons sd_int (sd_cons sd_var (sd_cons (sd_lst 1 (len_cons len_nil) (by decide) (sd_cons sd_int sd_nil)) (sd_cons sd_int (sd_cons sd_var sd_nil)))))))⟩)

theorem sc_lam10 : NdefX.NScope ["_law_it", "_law_tasks"] ["_law_it"] ["_law_tasks"] (lamT 10).scope := NdefX.nscope_by (by decide +kernel)
theorem lok_10 (T : Tx g mg) (c_passed : Cal P w g.K mg base (CXN P w) 4 "passed" ["people", "tasks", "sharing", "one", "other"] (iSpX g i_passed)) : LOk P w g.K mg base (CXN P w) 5 (lamT 10) ["_law_it"] (iSpL g i_lam10) :=
  lok_of sc_lam10 (fun _ _ _ _ us hl => match us, hl with | [_], _ => rfl) (iSpL_len rfl) (fun f c cl AA outer s H vs ws Q E hr hw h => ⟨_, (px_cal c_passed (hr.mono (by decide)) (by rfl) passLm (pa_cons pe_int (pa_cons (pv 1) (pa_cons (pe_lst (pa_cons pe_int pa_nil)) (pa_cons (pv 0) (pa_cons pe_int pa_nil)))))), bodyL h rfl ((sx_call (sd_cons sd_int (sd_cons sd_var (sd_cons (sd_lst 1 (len_cons len_nil) (by decide) (sd_cons sd_int sd_nil)) (sd_cons sd_var (sd_cons sd_int sd_nil)))))))⟩)

theorem sc_lam11 : NdefX.NScope ["_law_it"] ["_law_it"] [] (lamT 11).scope := NdefX.nscope_by (by decide +kernel)
theorem lok_11 (T : Tx g mg) (c_evenest : Cal P w g.K mg base (CXN P w) 4 "evenest" ["people", "tasks"] (iSpX g i_evenest)) : LOk P w g.K mg base (CXN P w) 5 (lamT 11) ["_law_it"] (iSpL g i_lam11) :=
  lok_of sc_lam11 (fun _ _ _ _ us hl => match us, hl with | [_], _ => rfl) (iSpL_len rfl) (fun f c cl AA outer s H vs ws Q E hr hw h => ⟨_, (px_cal c_evenest (hr.mono (by decide)) (by rfl) passLm (pa_cons pe_int (pa_cons (pv 0) pa_nil))), bodyL h rfl ((sx_call (sd_cons sd_int (sd_cons sd_var sd_nil))))⟩)

theorem sc_lam12 : NdefX.NScope ["_law_it", "_law_tasks"] ["_law_it"] ["_law_tasks"] (lamT 12).scope := NdefX.nscope_by (by decide +kernel)
theorem lok_12 (T : Tx g mg) (c_shared : Cal P w g.K mg base (CXN P w) 4 "shared" ["people", "tasks", "limits"] (iSpX g i_shared)) : LOk P w g.K mg base (CXN P w) 5 (lamT 12) ["_law_it"] (iSpL g i_lam12) :=
  lok_of sc_lam12 (fun _ _ _ _ us hl => match us, hl with | [_], _ => rfl) (iSpL_len rfl) (fun f c cl AA outer s H vs ws Q E hr hw h => ⟨_, (px_cal c_shared (hr.mono (by decide)) (by rfl) passLm (pa_cons pe_int (pa_cons (pv 1) (pa_cons (pv 0) pa_nil)))), bodyL h rfl ((sx_call (sd_cons sd_int (sd_cons sd_var (sd_cons sd_var sd_nil)))))⟩)

theorem sc_lam13 : NdefX.NScope ["_law_it"] ["_law_it"] [] (lamT 13).scope := NdefX.nscope_by (by decide +kernel)
theorem lok_13 (T : Tx g mg) (c_evenest : Cal P w g.K mg base (CXN P w) 4 "evenest" ["people", "tasks"] (iSpX g i_evenest)) : LOk P w g.K mg base (CXN P w) 5 (lamT 13) ["_law_it"] (iSpL g i_lam13) :=
  lok_of sc_lam13 (fun _ _ _ _ us hl => match us, hl with | [_], _ => rfl) (iSpL_len rfl) (fun f c cl AA outer s H vs ws Q E hr hw h => ⟨_, (px_cal c_evenest (hr.mono (by decide)) (by rfl) passLm (pa_cons (pv 0) (pa_cons (pe_lst pa_nil) pa_nil))), bodyL h rfl ((sx_call (sd_cons sd_var (sd_cons (sd_lst 0 len_nil (by decide) sd_nil) sd_nil))))⟩)

abbrev s__law_word : Stmt := top 39
theorem sc__law_word : FnScope ["_law_ask", "_law_thing", "error", "_law_kinds", "_law_words"] ["_law_ask", "_law_thing"] (defScope s__law_word) := ⟨rfl, rfl, rfl, by decide +kernel, rfl, by decide +kernel, by decide +kernel⟩
theorem ok__law_word {f : Addr} {fd : FuncData} (F : Fun g.K "_law_word" "_law_word" s__law_word f fd) (T : Tx (g.b base) mg) (t__law_ask : LOks P w g mg base 5 tab__law_word__law_ask) : FnOk P w g.K mg base (CXN P w) 6 f fd ["_law_ask", "_law_thing"] (iSpX (g.b base) i__law_word) :=
  okN F sc__law_word (iSpX_len rfl) (fun cdv AA outer s H vs Q E hr h => ⟨_, (pss_cons (L2N.ps_try_as (i := 2) (x := "EitherError") rfl rfl sc__law_word.nd rfl rfl ⟨by rfl, by decide, .inl T.g_EitherError⟩ takesD (fun W pn xe tk _ => (pss_one (ps_expr (px_callV (j := 0) base rfl t__law_ask (hr.mono (by decide)) rfl (by first | exact .inl rfl | exact .inr (.inl rfl) | exact .inr (.inr rfl)) tk (pa_cons (pv 1) pa_nil))))) (fun a oe cls d pn hz hf => (pss_cons (ps_set (i := 3) sc__law_word.nd rfl (by first | exact Or.inl rfl | exact Or.inr rfl) (pe_lst (pa_cons (px_isE (g := g.b base) (x := "BadLimits") (v := .ref (g.γ "BadLimits")) rfl hz hf T.E.c (T.E.kit "BadLimits" (by decide +kernel)) (fun u r => r) (pa_cons (pv 2) (pa_cons (pe_glob (v := .ref (g.γ "BadLimits")) (by rfl) T.g_BadLimits rfl) pa_nil)) (by rfl) T.b.isinstance) (pa_cons (px_isE (g := g.b base) (x := "BadPeople") (v := .ref (g.γ "BadPeople")) rfl hz hf T.E.c (T.E.kit "BadPeople" (by decide +kernel)) (fun u r => r) (pa_cons (pv 2) (pa_cons (pe_glob (v := .ref (g.γ "BadPeople")) (by rfl) T.g_BadPeople rfl) pa_nil)) (by rfl) T.b.isinstance) pa_nil))))
    (pss_cons (ps_set (i := 3) sc__law_word.nd rfl (by first | exact Or.inl rfl | exact Or.inr rfl) (pe_op op_ADD (pv 3) (pe_lst (pa_cons (px_isE (g := g.b base) (x := "BadPerson") (v := .ref (g.γ "BadPerson")) rfl hz hf T.E.c (T.E.kit "BadPerson" (by decide +kernel)) (fun u r => r) (pa_cons (pv 2) (pa_cons (pe_glob (v := .ref (g.γ "BadPerson")) (by rfl) T.g_BadPerson rfl) pa_nil)) (by rfl) T.b.isinstance) (pa_cons (px_isE (g := g.b base) (x := "BadSharing") (v := .ref (g.γ "BadSharing")) rfl hz hf T.E.c (T.E.kit "BadSharing" (by decide +kernel)) (fun u r => r) (pa_cons (pv 2) (pa_cons (pe_glob (v := .ref (g.γ "BadSharing")) (by rfl) T.g_BadSharing rfl) pa_nil)) (by rfl) T.b.isinstance) pa_nil)))))
    (pss_cons (ps_set (i := 3) sc__law_word.nd rfl (by first | exact Or.inl rfl | exact Or.inr rfl) (pe_op op_ADD (pv 3) (pe_lst (pa_cons (px_isE (g := g.b base) (x := "BadTasks") (v := .ref (g.γ "BadTasks")) rfl hz hf T.E.c (T.E.kit "BadTasks" (by decide +kernel)) (fun u r => r) (pa_cons (pv 2) (pa_cons (pe_glob (v := .ref (g.γ "BadTasks")) (by rfl) T.g_BadTasks rfl) pa_nil)) (by rfl) T.b.isinstance) (pa_cons (px_isE (g := g.b base) (x := "Unlike") (v := .ref (g.γ "Unlike")) rfl hz hf T.E.c (T.E.kit "Unlike" (by decide +kernel)) (fun u r => r) (pa_cons (pv 2) (pa_cons (pe_glob (v := .ref (g.γ "Unlike")) (by rfl) T.g_Unlike rfl) pa_nil)) (by rfl) T.b.isinstance) pa_nil)))))
    (pss_cons (ps_set (i := 4) sc__law_word.nd rfl (by first | exact Or.inl rfl | exact Or.inr rfl) (pe_lst (pa_cons pe_str (pa_cons pe_str (pa_cons pe_str (pa_cons pe_str (pa_cons pe_str (pa_cons pe_str pa_nil))))))))
    (pss_one (ps_ret (pe_ifExp (pt_cmpR (op_inG (K := g.K) rfl) pe_bl (pv 3) rfl) (pe_ix (ix_seqG (K := g.K) rfl) (pv 4) (pe_bmG (K := g.K) rfl PySem.F.plainAttrs_list PySem.F.slot_list_index PySem.F.type_list_index (mt_indexG (K := g.K) rfl) (pv 3) (pa_cons pe_bl pa_nil)) (fun _ _ => rfl)) pe_str)))))))))
    (pss_one (ps_ret pe_str))), bodyX h rfl ((ss_seq (sx_try T.E.ea T.E.ex (fun WW => (ss_expr (sx_callV (sd_cons sd_var sd_nil)))) (fun a c hc => (ss_seq (ss_asg (sd_lst 2 (len_cons (len_cons len_nil)) (by decide) (sd_cons (sx_isE hc) (sd_cons (sx_isE hc) sd_nil))) sg_name)
    (ss_seq (ss_asg (sd_op sr_add sd_var (sd_lst 2 (len_cons (len_cons len_nil)) (by decide) (sd_cons (sx_isE hc) (sd_cons (sx_isE hc) sd_nil)))) sg_name)
    (ss_seq (ss_asg (sd_op sr_add sd_var (sd_lst 2 (len_cons (len_cons len_nil)) (by decide) (sd_cons (sx_isE hc) (sd_cons (sx_isE hc) sd_nil)))) sg_name)
    (ss_seq (ss_asg (sd_lst 6 (len_cons (len_cons (len_cons (len_cons (len_cons (len_cons len_nil)))))) (by decide) (sd_cons sd_str (sd_cons sd_str (sd_cons sd_str (sd_cons sd_str (sd_cons sd_str (sd_cons sd_str sd_nil))))))) sg_name)
    (ss_ret (sd_if (sd_test (sd_op sr_in sd_bl sd_var)) (sd_op sr_ix sd_var (sd_bm sm_index sd_var (sd_cons sd_bl sd_nil))) sd_str))))))))
    (ss_ret sd_str)))⟩)

abbrev s__law_limits_right : Stmt := top 40
theorem sc__law_limits_right : FnScope ["_law_far", "_law_pair", "_law_three", "_law_cases", "_law_tasks", "_law_limits", "_law_can", "_law_found", "_law_told", "_law_due"] ["_law_far"] (defScope s__law_limits_right) := ⟨rfl, rfl, rfl, by decide +kernel, rfl, by decide +kernel, by decide +kernel⟩
theorem ok__law_limits_right {f : Addr} {fd : FuncData} (F : Fun g.K "_law_limits_right" "_law_limits_right" s__law_limits_right f fd) (T : Tx g mg) (m_Shared : MkcX P w g.K mg base 1 "Shared" (g.γ "Shared") ["self", "sharing"] (iSpX g i_Shared_init)) (m_Crowd : MkcX P w g.K mg base 1 "Crowd" (g.γ "Crowd") ["self", "some"] (iSpX g i_Crowd_init)) (c_Shared_shows : McalX P w g.K mg base 3 (g.γ "Shared") "shows" ["self", "people", "tasks", "limits"] (iSpX g i_Shared_shows)) (c_Crowd_shows : McalX P w g.K mg base 2 (g.γ "Crowd") "shows" ["self", "people", "tasks", "limits"] (iSpX g i_Crowd_shows)) (c_shared : Cal P w g.K mg base (CXN P w) 4 "shared" ["people", "tasks", "limits"] (iSpX g i_shared)) (c_loads : Cal P w g.K mg base (CXN P w) 4 "loads" ["people", "tasks", "sharing"] (iSpX g i_loads)) : FnOk P w g.K mg base (CXN P w) 5 f fd ["_law_far"] (iSpX g i__law_limits_right) :=
  gc_ok (okN F sc__law_limits_right (iSpX_len rfl) (fun cdv AA outer s H vs Q E hr h => ⟨_, (pss_cons (ps_par (i := 1) (j := 2) (by rfl) sc__law_limits_right.nd rfl rfl (by decide) rfl rfl (pa_cons (pe_lst (pa_cons (pe_tup (pa_cons pe_int (pa_cons pe_int pa_nil))) (pa_cons (pe_tup (pa_cons pe_int (pa_cons pe_int pa_nil))) (pa_cons (pe_tup (pa_cons pe_int (pa_cons pe_int pa_nil))) pa_nil)))) (pa_cons (pe_lst (pa_cons (pe_tup (pa_cons pe_int (pa_cons pe_int pa_nil))) (pa_cons (pe_tup (pa_cons pe_int (pa_cons pe_int pa_nil))) (pa_cons (pe_tup (pa_cons pe_int (pa_cons pe_int pa_nil))) pa_nil)))) pa_nil)) rfl)
    (pss_cons (ps_set (i := 3) sc__law_limits_right.nd rfl (by first | exact Or.inl rfl | exact Or.inr rfl) (pe_lst (pa_cons (pe_tup (pa_cons (pv 1) (pa_cons (pe_lst (pa_cons pe_int (pa_cons pe_int pa_nil))) (pa_cons (px_mkc m_Shared (hr.mono (by decide)) (by rfl) passD (pa_cons (pe_lst (pa_cons pe_int (pa_cons pe_int (pa_cons pe_int pa_nil)))) pa_nil)) (pa_cons pe_bl pa_nil))))) (pa_cons (pe_tup (pa_cons (pv 1) (pa_cons (pe_lst (pa_cons pe_int (pa_cons pe_int pa_nil))) (pa_cons (px_mkc m_Shared (hr.mono (by decide)) (by rfl) passD (pa_cons (pe_lst (pa_cons pe_int (pa_cons pe_int (pa_cons pe_int pa_nil)))) pa_nil)) (pa_cons pe_bl pa_nil))))) pa_nil))))
    (pss_cons (ps_set (i := 3) sc__law_limits_right.nd rfl (by first | exact Or.inl rfl | exact Or.inr rfl) (pe_op op_ADD (pv 3) (pe_lst (pa_cons (pe_tup (pa_cons (pv 1) (pa_cons (pe_lst (pa_cons (pv 0) (pa_cons pe_int pa_nil))) (pa_cons (px_mkc m_Shared (hr.mono (by decide)) (by rfl) passD (pa_cons (pe_lst (pa_cons pe_int (pa_cons pe_int (pa_cons pe_int pa_nil)))) pa_nil)) (pa_cons pe_bl pa_nil))))) (pa_cons (pe_tup (pa_cons (pv 1) (pa_cons (pe_lst (pa_cons pe_int (pa_cons pe_int pa_nil))) (pa_cons (px_mkc m_Shared (hr.mono (by decide)) (by rfl) passD (pa_cons (pe_lst (pa_cons pe_int (pa_cons pe_int pa_nil))) pa_nil)) (pa_cons pe_bl pa_nil))))) pa_nil)))))
    (pss_cons (ps_set (i := 3) sc__law_limits_right.nd rfl (by first | exact Or.inl rfl | exact Or.inr rfl) (pe_op op_ADD (pv 3) (pe_lst (pa_cons (pe_tup (pa_cons (pv 1) (pa_cons (pe_lst (pa_cons pe_int (pa_cons pe_int pa_nil))) (pa_cons (px_mkc m_Shared (hr.mono (by decide)) (by rfl) passD (pa_cons (pe_lst (pa_cons pe_int (pa_cons pe_int (pa_cons pe_int pa_nil)))) pa_nil)) (pa_cons pe_bl pa_nil))))) (pa_cons (pe_tup (pa_cons (pv 1) (pa_cons (pe_lst (pa_cons pe_int (pa_cons pe_int pa_nil))) (pa_cons (px_mkc m_Crowd (hr.mono (by decide)) (by rfl) passD (pa_cons (pe_lst (pa_cons pe_int (pa_cons pe_int pa_nil))) pa_nil)) (pa_cons pe_bl pa_nil))))) pa_nil)))))
    (pss_cons (ps_set (i := 3) sc__law_limits_right.nd rfl (by first | exact Or.inl rfl | exact Or.inr rfl) (pe_op op_ADD (pv 3) (pe_lst (pa_cons (pe_tup (pa_cons (pv 1) (pa_cons (pe_lst (pa_cons pe_int (pa_cons pe_int pa_nil))) (pa_cons (px_mkc m_Crowd (hr.mono (by decide)) (by rfl) passD (pa_cons (pe_lst (pa_cons pe_int (pa_cons pe_int pa_nil))) pa_nil)) (pa_cons pe_bl pa_nil))))) (pa_cons (pe_tup (pa_cons (pv 1) (pa_cons (pe_lst (pa_cons pe_int (pa_cons pe_int pa_nil))) (pa_cons (px_mkc m_Crowd (hr.mono (by decide)) (by rfl) passD (pa_cons (pe_lst (pa_cons pe_int pa_nil)) pa_nil)) (pa_cons pe_bl pa_nil))))) pa_nil)))))
    (pss_cons (ps_set (i := 3) sc__law_limits_right.nd rfl (by first | exact Or.inl rfl | exact Or.inr rfl) (pe_op op_ADD (pv 3) (pe_lst (pa_cons (pe_tup (pa_cons (pv 1) (pa_cons (pe_lst (pa_cons pe_int (pa_cons pe_int pa_nil))) (pa_cons (px_mkc m_Crowd (hr.mono (by decide)) (by rfl) passD (pa_cons (pe_lst (pa_cons pe_int (pa_cons pe_int pa_nil))) pa_nil)) (pa_cons pe_bl pa_nil))))) (pa_cons (pe_tup (pa_cons (pv 1) (pa_cons (pe_lst (pa_cons pe_int (pa_cons pe_int pa_nil))) (pa_cons (px_mkc m_Crowd (hr.mono (by decide)) (by rfl) passD (pa_cons (pe_lst (pa_cons pe_int (pa_cons pe_int (pa_cons pe_int pa_nil)))) pa_nil)) (pa_cons pe_bl pa_nil))))) pa_nil)))))
    (pss_cons (ps_set (i := 3) sc__law_limits_right.nd rfl (by first | exact Or.inl rfl | exact Or.inr rfl) (pe_op op_ADD (pv 3) (pe_lst (pa_cons (pe_tup (pa_cons (pv 1) (pa_cons (pe_lst (pa_cons pe_int (pa_cons pe_int pa_nil))) (pa_cons (px_mkc m_Crowd (hr.mono (by decide)) (by rfl) passD (pa_cons (pe_lst (pa_cons pe_int (pa_cons pe_int pa_nil))) pa_nil)) (pa_cons pe_bl pa_nil))))) (pa_cons (pe_tup (pa_cons (pv 1) (pa_cons (pe_lst (pa_cons pe_int (pa_cons pe_int pa_nil))) (pa_cons (px_mkc m_Crowd (hr.mono (by decide)) (by rfl) passD (pa_cons (pe_lst pa_nil) pa_nil)) (pa_cons pe_bl pa_nil))))) pa_nil)))))
    (pss_cons (ps_set (i := 3) sc__law_limits_right.nd rfl (by first | exact Or.inl rfl | exact Or.inr rfl) (pe_op op_ADD (pv 3) (pe_lst (pa_cons (pe_tup (pa_cons (pe_lst pa_nil) (pa_cons (pe_lst (pa_cons pe_int (pa_cons pe_int pa_nil))) (pa_cons (px_mkc m_Shared (hr.mono (by decide)) (by rfl) passD (pa_cons (pe_lst pa_nil) pa_nil)) (pa_cons pe_bl pa_nil))))) pa_nil))))
    (pss_cons (ps_if (pt_truth (pe_callB (cr_any rfl) (by rfl) T.b.any (by decide +kernel) (pa_cons (pe_lc (own := [("_law_tasks", 4), ("_law_limits", 5), ("_law_told", 8), ("_law_due", 9)]) (by rfl) sc__law_limits_right.nd (pi_list (pv 3)) (blkOk_by (own := [("_law_tasks", 4), ("_law_limits", 5), ("_law_told", 8), ("_law_due", 9)]) (N := ["_law_far", "_law_pair", "_law_three", "_law_cases", "_law_tasks", "_law_limits", "_law_can", "_law_found", "_law_told", "_law_due"]) (sc := defScope s__law_limits_right) (by decide +kernel)) (fun _ _ _ _ _ => (pg_tup rfl (pgs_cons (pg_name (i := 4) sc__law_limits_right.nd rfl (by first | exact Or.inl rfl | exact Or.inr rfl)) (pgs_cons (pg_name (i := 5) sc__law_limits_right.nd rfl (by first | exact Or.inl rfl | exact Or.inr rfl)) (pgs_cons (pg_name (i := 8) sc__law_limits_right.nd rfl (by first | exact Or.inl rfl | exact Or.inr rfl)) (pgs_cons (pg_name (i := 9) sc__law_limits_right.nd rfl (by first | exact Or.inl rfl | exact Or.inr rfl)) pgs_nil)))))) (fun _ _ _ _ _ => pts_nil) (fun _ _ _ _ _ => (pe_cmpR (op_neD hr.units) (PE.or2 (px_mcal c_Shared_shows (hr.mono (by decide)) passN0 (pv 8) (pa_cons pe_int (pa_cons (pv 4) (pa_cons (pv 5) pa_nil)))) (px_mcal c_Crowd_shows (hr.mono (by decide)) passN0 (pv 8) (pa_cons pe_int (pa_cons (pv 4) (pa_cons (pv 5) pa_nil))))) (pv 9) (nomark _)))) pa_nil)) (fun _ => rfl)) (pss_one (ps_ret pe_bl)) pss_nil)
    (pss_cons (ps_if (pt_not (pt_truth (PE.or2 (px_mcal c_Shared_shows (hr.mono (by decide)) passD (px_mkc m_Crowd (hr.mono (by decide)) (by rfl) passD (pa_cons (pe_lst (pa_cons pe_int (pa_cons pe_int (pa_cons pe_int pa_nil)))) pa_nil)) (pa_cons pe_int (pa_cons (pe_op op_ADD (pe_op op_MUL (pe_slice sl_list (pv 2) po_none (po_some pe_int)) pe_int) (pv 2)) (pa_cons (pe_lst (pa_cons pe_int (pa_cons pe_int (pa_cons pe_int pa_nil)))) pa_nil)))) (px_mcal c_Crowd_shows (hr.mono (by decide)) passD (px_mkc m_Crowd (hr.mono (by decide)) (by rfl) passD (pa_cons (pe_lst (pa_cons pe_int (pa_cons pe_int (pa_cons pe_int pa_nil)))) pa_nil)) (pa_cons pe_int (pa_cons (pe_op op_ADD (pe_op op_MUL (pe_slice sl_list (pv 2) po_none (po_some pe_int)) pe_int) (pv 2)) (pa_cons (pe_lst (pa_cons pe_int (pa_cons pe_int (pa_cons pe_int pa_nil)))) pa_nil))))) (fun _ => rfl))) (pss_one (ps_ret pe_bl)) pss_nil)
    (pss_cons (ps_if (pt_truth (PE.or2 (px_mcal c_Shared_shows (hr.mono (by decide)) passD (px_mkc m_Crowd (hr.mono (by decide)) (by rfl) passD (pa_cons (pe_lst (pa_cons pe_int (pa_cons pe_int (pa_cons pe_int pa_nil)))) pa_nil)) (pa_cons pe_int (pa_cons (pv 2) (pa_cons (pe_lst (pa_cons pe_int (pa_cons pe_int (pa_cons pe_int pa_nil)))) pa_nil)))) (px_mcal c_Crowd_shows (hr.mono (by decide)) passD (px_mkc m_Crowd (hr.mono (by decide)) (by rfl) passD (pa_cons (pe_lst (pa_cons pe_int (pa_cons pe_int (pa_cons pe_int pa_nil)))) pa_nil)) (pa_cons pe_int (pa_cons (pv 2) (pa_cons (pe_lst (pa_cons pe_int (pa_cons pe_int (pa_cons pe_int pa_nil)))) pa_nil))))) (fun _ => rfl)) (pss_one (ps_ret pe_bl)) pss_nil)
    (pss_cons (ps_if (pt_not (pt_truth (PE.or2 (px_mcal c_Shared_shows (hr.mono (by decide)) passD (px_mkc m_Crowd (hr.mono (by decide)) (by rfl) passD (pa_cons (pe_lst (pa_cons pe_int (pa_cons pe_int (pa_cons pe_int pa_nil)))) pa_nil)) (pa_cons pe_int (pa_cons (pe_op op_ADD (pv 1) (pe_lst (pa_cons (pe_tup (pa_cons pe_int (pa_cons pe_int pa_nil))) pa_nil))) (pa_cons (pe_lst (pa_cons pe_int (pa_cons pe_int (pa_cons pe_int pa_nil)))) pa_nil)))) (px_mcal c_Crowd_shows (hr.mono (by decide)) passD (px_mkc m_Crowd (hr.mono (by decide)) (by rfl) passD (pa_cons (pe_lst (pa_cons pe_int (pa_cons pe_int (pa_cons pe_int pa_nil)))) pa_nil)) (pa_cons pe_int (pa_cons (pe_op op_ADD (pv 1) (pe_lst (pa_cons (pe_tup (pa_cons pe_int (pa_cons pe_int pa_nil))) pa_nil))) (pa_cons (pe_lst (pa_cons pe_int (pa_cons pe_int (pa_cons pe_int pa_nil)))) pa_nil))))) (fun _ => rfl))) (pss_one (ps_ret pe_bl)) pss_nil)
    (pss_cons (ps_set (i := 3) sc__law_limits_right.nd rfl (by first | exact Or.inl rfl | exact Or.inr rfl) (pe_lst (pa_cons (pe_tup (pa_cons (pv 1) (pa_cons (pe_lst (pa_cons pe_int (pa_cons pe_int pa_nil))) (pa_cons pe_bl pa_nil)))) (pa_cons (pe_tup (pa_cons (pv 1) (pa_cons (pe_lst (pa_cons pe_int (pa_cons pe_int pa_nil))) (pa_cons pe_bl pa_nil)))) (pa_cons (pe_tup (pa_cons (pv 1) (pa_cons (pe_lst (pa_cons (pv 0) (pa_cons pe_int pa_nil))) (pa_cons pe_bl pa_nil)))) pa_nil)))))
    (pss_cons (ps_set (i := 3) sc__law_limits_right.nd rfl (by first | exact Or.inl rfl | exact Or.inr rfl) (pe_op op_ADD (pv 3) (pe_lst (pa_cons (pe_tup (pa_cons (pv 1) (pa_cons (pe_lst (pa_cons pe_int (pa_cons pe_int pa_nil))) (pa_cons pe_bl pa_nil)))) (pa_cons (pe_tup (pa_cons (pe_lst pa_nil) (pa_cons (pe_lst (pa_cons pe_int (pa_cons pe_int pa_nil))) (pa_cons pe_bl pa_nil)))) pa_nil)))))
    (pss_cons (ps_for ownD (by rfl) (pi_list (pv 3)) (pg_tup rfl (pgs_cons (pg_name (i := 4) sc__law_limits_right.nd rfl (by first | exact Or.inl rfl | exact Or.inr rfl)) (pgs_cons (pg_name (i := 5) sc__law_limits_right.nd rfl (by first | exact Or.inl rfl | exact Or.inr rfl)) (pgs_cons (pg_name (i := 6) sc__law_limits_right.nd rfl (by first | exact Or.inl rfl | exact Or.inr rfl)) pgs_nil)))) (pss_cons (ps_set (i := 7) sc__law_limits_right.nd rfl (by first | exact Or.inl rfl | exact Or.inr rfl) (px_cal c_shared (hr.mono (by decide)) (by rfl) passD (pa_cons pe_int (pa_cons (pv 4) (pa_cons (pv 5) pa_nil)))))
    (pss_one (ps_if (pw_or (pt_cmpR (op_neD hr.units) (pe_callB call_isi (by rfl) T.b.isinstance (by decide +kernel) (pa_cons (pv 7) (pa_cons (pe_glob (v := .ref (g.γ "Shared")) (by rfl) T.g_Shared rfl) pa_nil))) (pv 6) (nomark _)) (pw_or1 (pt_not (pt_truth (PE.or2 (px_mcal c_Shared_shows (hr.mono (by decide)) passD (pv 7) (pa_cons pe_int (pa_cons (pv 4) (pa_cons (pv 5) pa_nil)))) (px_mcal c_Crowd_shows (hr.mono (by decide)) passD (pv 7) (pa_cons pe_int (pa_cons (pv 4) (pa_cons (pv 5) pa_nil))))) (fun _ => rfl))))).pt (pss_one (ps_ret pe_bl)) pss_nil))))
    (pss_cons (ps_if (pt_not (pt_truth (pe_callB call_isi (by rfl) T.b.isinstance (by decide +kernel) (pa_cons (px_cal c_shared (hr.mono (by decide)) (by rfl) passD (pa_cons pe_int (pa_cons (pv 2) (pa_cons (pe_lst (pa_cons pe_int (pa_cons pe_int (pa_cons pe_int pa_nil)))) pa_nil)))) (pa_cons (pe_glob (v := .ref (g.γ "Shared")) (by rfl) T.g_Shared rfl) pa_nil))) (fun _ => rfl))) (pss_one (ps_ret pe_bl)) pss_nil)
    (pss_cons (ps_if (pw_or (pt_not (pt_truth (pe_callB call_isi (by rfl) T.b.isinstance (by decide +kernel) (pa_cons (px_cal c_shared (hr.mono (by decide)) (by rfl) passD (pa_cons pe_int (pa_cons (pv 2) (pa_cons (pe_lst (pa_cons pe_int (pa_cons pe_int (pa_cons pe_int pa_nil)))) pa_nil)))) (pa_cons (pe_glob (v := .ref (g.γ "Crowd")) (by rfl) T.g_Crowd rfl) pa_nil))) (fun _ => rfl))) (pw_or1 (pt_cmpR (op_neD hr.units) (pe_fld (px_cal c_shared (hr.mono (by decide)) (by rfl) passD (pa_cons pe_int (pa_cons (pe_lst pa_nil) (pa_cons (pe_op op_MUL (pe_lst (pa_cons pe_int pa_nil)) pe_int) pa_nil)))) rfl) (pe_lst pa_nil) (nomark _)))).pt (pss_one (ps_ret pe_bl)) pss_nil)
    (pss_cons (ps_if (pw_or (pt_cmpR (op_neD hr.units) (px_cal c_loads (hr.mono (by decide)) (by rfl) passD (pa_cons pe_int (pa_cons (pv 1) (pa_cons (pe_lst (pa_cons pe_int (pa_cons pe_int (pa_cons pe_int pa_nil)))) pa_nil)))) (pe_lst (pa_cons pe_int (pa_cons pe_int pa_nil))) (nomark _)) (pw_or1 (pt_cmpR (op_neD hr.units) (px_cal c_loads (hr.mono (by decide)) (by rfl) passD (pa_cons pe_int (pa_cons (pe_lst pa_nil) (pa_cons (pe_lst pa_nil) pa_nil)))) (pe_lst (pa_cons pe_int (pa_cons pe_int (pa_cons pe_int pa_nil)))) (nomark _)))).pt (pss_one (ps_ret pe_bl)) pss_nil)
    (pss_one (ps_ret (pe_cmpR (op_eqD hr.units) (px_cal c_loads (hr.mono (by decide)) (by rfl) passD (pa_cons pe_int (pa_cons (pv 2) (pa_cons (pe_lst (pa_cons pe_int (pa_cons pe_int (pa_cons pe_int pa_nil)))) pa_nil)))) (pe_lst (pa_cons pe_int (pa_cons pe_int (pa_cons pe_int pa_nil)))) (nomark _)))))))))))))))))))))), bodyX h rfl ((ss_seq (ss_par (sd_cons (sd_lst 3 (len_cons (len_cons (len_cons len_nil))) (by decide) (sd_cons (sd_tup 2 (len_cons (len_cons len_nil)) (by decide) (sd_cons sd_int (sd_cons sd_int sd_nil))) (sd_cons (sd_tup 2 (len_cons (len_cons len_nil)) (by decide) (sd_cons sd_int (sd_cons sd_int sd_nil))) (sd_cons (sd_tup 2 (len_cons (len_cons len_nil)) (by decide) (sd_cons sd_int (sd_cons sd_int sd_nil))) sd_nil)))) (sd_cons (sd_lst 3 (len_cons (len_cons (len_cons len_nil))) (by decide) (sd_cons (sd_tup 2 (len_cons (len_cons len_nil)) (by decide) (sd_cons sd_int (sd_cons sd_int sd_nil))) (sd_cons (sd_tup 2 (len_cons (len_cons len_nil)) (by decide) (sd_cons sd_int (sd_cons sd_int sd_nil))) (sd_cons (sd_tup 2 (len_cons (len_cons len_nil)) (by decide) (sd_cons sd_int (sd_cons sd_int sd_nil))) sd_nil)))) sd_nil)))
    (ss_seq (ss_asg (sd_lst 2 (len_cons (len_cons len_nil)) (by decide) (sd_cons (sd_tup 4 (len_cons (len_cons (len_cons (len_cons len_nil)))) (by decide) (sd_cons sd_var (sd_cons (sd_lst 2 (len_cons (len_cons len_nil)) (by decide) (sd_cons sd_int (sd_cons sd_int sd_nil))) (sd_cons (sx_make rfl (sd_cons (sd_lst 3 (len_cons (len_cons (len_cons len_nil))) (by decide) (sd_cons sd_int (sd_cons sd_int (sd_cons sd_int sd_nil)))) sd_nil)) (sd_cons sd_bl sd_nil))))) (sd_cons (sd_tup 4 (len_cons (len_cons (len_cons (len_cons len_nil)))) (by decide) (sd_cons sd_var (sd_cons (sd_lst 2 (len_cons (len_cons len_nil)) (by decide) (sd_cons sd_int (sd_cons sd_int sd_nil))) (sd_cons (sx_make rfl (sd_cons (sd_lst 3 (len_cons (len_cons (len_cons len_nil))) (by decide) (sd_cons sd_int (sd_cons sd_int (sd_cons sd_int sd_nil)))) sd_nil)) (sd_cons sd_bl sd_nil))))) sd_nil))) sg_name)
    (ss_seq (ss_asg (sd_op sr_add sd_var (sd_lst 2 (len_cons (len_cons len_nil)) (by decide) (sd_cons (sd_tup 4 (len_cons (len_cons (len_cons (len_cons len_nil)))) (by decide) (sd_cons sd_var (sd_cons (sd_lst 2 (len_cons (len_cons len_nil)) (by decide) (sd_cons sd_var (sd_cons sd_int sd_nil))) (sd_cons (sx_make rfl (sd_cons (sd_lst 3 (len_cons (len_cons (len_cons len_nil))) (by decide) (sd_cons sd_int (sd_cons sd_int (sd_cons sd_int sd_nil)))) sd_nil)) (sd_cons sd_bl sd_nil))))) (sd_cons (sd_tup 4 (len_cons (len_cons (len_cons (len_cons len_nil)))) (by decide) (sd_cons sd_var (sd_cons (sd_lst 2 (len_cons (len_cons len_nil)) (by decide) (sd_cons sd_int (sd_cons sd_int sd_nil))) (sd_cons (sx_make rfl (sd_cons (sd_lst 2 (len_cons (len_cons len_nil)) (by decide) (sd_cons sd_int (sd_cons sd_int sd_nil))) sd_nil)) (sd_cons sd_bl sd_nil))))) sd_nil)))) sg_name)
    (ss_seq (ss_asg (sd_op sr_add sd_var (sd_lst 2 (len_cons (len_cons len_nil)) (by decide) (sd_cons (sd_tup 4 (len_cons (len_cons (len_cons (len_cons len_nil)))) (by decide) (sd_cons sd_var (sd_cons (sd_lst 2 (len_cons (len_cons len_nil)) (by decide) (sd_cons sd_int (sd_cons sd_int sd_nil))) (sd_cons (sx_make rfl (sd_cons (sd_lst 3 (len_cons (len_cons (len_cons len_nil))) (by decide) (sd_cons sd_int (sd_cons sd_int (sd_cons sd_int sd_nil)))) sd_nil)) (sd_cons sd_bl sd_nil))))) (sd_cons (sd_tup 4 (len_cons (len_cons (len_cons (len_cons len_nil)))) (by decide) (sd_cons sd_var (sd_cons (sd_lst 2 (len_cons (len_cons len_nil)) (by decide) (sd_cons sd_int (sd_cons sd_int sd_nil))) (sd_cons (sx_make rfl (sd_cons (sd_lst 2 (len_cons (len_cons len_nil)) (by decide) (sd_cons sd_int (sd_cons sd_int sd_nil))) sd_nil)) (sd_cons sd_bl sd_nil))))) sd_nil)))) sg_name)
    (ss_seq (ss_asg (sd_op sr_add sd_var (sd_lst 2 (len_cons (len_cons len_nil)) (by decide) (sd_cons (sd_tup 4 (len_cons (len_cons (len_cons (len_cons len_nil)))) (by decide) (sd_cons sd_var (sd_cons (sd_lst 2 (len_cons (len_cons len_nil)) (by decide) (sd_cons sd_int (sd_cons sd_int sd_nil))) (sd_cons (sx_make rfl (sd_cons (sd_lst 2 (len_cons (len_cons len_nil)) (by decide) (sd_cons sd_int (sd_cons sd_int sd_nil))) sd_nil)) (sd_cons sd_bl sd_nil))))) (sd_cons (sd_tup 4 (len_cons (len_cons (len_cons (len_cons len_nil)))) (by decide) (sd_cons sd_var (sd_cons (sd_lst 2 (len_cons (len_cons len_nil)) (by decide) (sd_cons sd_int (sd_cons sd_int sd_nil))) (sd_cons (sx_make rfl (sd_cons (sd_lst 1 (len_cons len_nil) (by decide) (sd_cons sd_int sd_nil)) sd_nil)) (sd_cons sd_bl sd_nil))))) sd_nil)))) sg_name)
    (ss_seq (ss_asg (sd_op sr_add sd_var (sd_lst 2 (len_cons (len_cons len_nil)) (by decide) (sd_cons (sd_tup 4 (len_cons (len_cons (len_cons (len_cons len_nil)))) (by decide) (sd_cons sd_var (sd_cons (sd_lst 2 (len_cons (len_cons len_nil)) (by decide) (sd_cons sd_int (sd_cons sd_int sd_nil))) (sd_cons (sx_make rfl (sd_cons (sd_lst 2 (len_cons (len_cons len_nil)) (by decide) (sd_cons sd_int (sd_cons sd_int sd_nil))) sd_nil)) (sd_cons sd_bl sd_nil))))) (sd_cons (sd_tup 4 (len_cons (len_cons (len_cons (len_cons len_nil)))) (by decide) (sd_cons sd_var (sd_cons (sd_lst 2 (len_cons (len_cons len_nil)) (by decide) (sd_cons sd_int (sd_cons sd_int sd_nil))) (sd_cons (sx_make rfl (sd_cons (sd_lst 3 (len_cons (len_cons (len_cons len_nil))) (by decide) (sd_cons sd_int (sd_cons sd_int (sd_cons sd_int sd_nil)))) sd_nil)) (sd_cons sd_bl sd_nil))))) sd_nil)))) sg_name)
    (ss_seq (ss_asg (sd_op sr_add sd_var (sd_lst 2 (len_cons (len_cons len_nil)) (by decide) (sd_cons (sd_tup 4 (len_cons (len_cons (len_cons (len_cons len_nil)))) (by decide) (sd_cons sd_var (sd_cons (sd_lst 2 (len_cons (len_cons len_nil)) (by decide) (sd_cons sd_int (sd_cons sd_int sd_nil))) (sd_cons (sx_make rfl (sd_cons (sd_lst 2 (len_cons (len_cons len_nil)) (by decide) (sd_cons sd_int (sd_cons sd_int sd_nil))) sd_nil)) (sd_cons sd_bl sd_nil))))) (sd_cons (sd_tup 4 (len_cons (len_cons (len_cons (len_cons len_nil)))) (by decide) (sd_cons sd_var (sd_cons (sd_lst 2 (len_cons (len_cons len_nil)) (by decide) (sd_cons sd_int (sd_cons sd_int sd_nil))) (sd_cons (sx_make rfl (sd_cons (sd_lst 0 len_nil (by decide) sd_nil) sd_nil)) (sd_cons sd_bl sd_nil))))) sd_nil)))) sg_name)
    (ss_seq (ss_asg (sd_op sr_add sd_var (sd_lst 1 (len_cons len_nil) (by decide) (sd_cons (sd_tup 4 (len_cons (len_cons (len_cons (len_cons len_nil)))) (by decide) (sd_cons (sd_lst 0 len_nil (by decide) sd_nil) (sd_cons (sd_lst 2 (len_cons (len_cons len_nil)) (by decide) (sd_cons sd_int (sd_cons sd_int sd_nil))) (sd_cons (sx_make rfl (sd_cons (sd_lst 0 len_nil (by decide) sd_nil) sd_nil)) (sd_cons sd_bl sd_nil))))) sd_nil))) sg_name)
    (ss_seq (ss_if (sd_tru (sd_cb sc_any (sd_cons (sd_lc (si_list sd_var) (sg_tup (sgs_cons sg_name (sgs_cons sg_name (sgs_cons sg_name (sgs_cons sg_name sgs_nil))))) (wp_tup (wps_cons (by simp) (wps_cons (by simp) (wps_cons (by simp) (wps_cons (by simp) wps_nil))))) sd_yes (sd_op sr_ne (sd_is (sx_meth0 rfl sd_var (sd_cons sd_int (sd_cons sd_var (sd_cons sd_var sd_nil)))) (sx_meth0 rfl sd_var (sd_cons sd_int (sd_cons sd_var (sd_cons sd_var sd_nil))))) sd_var)) sd_nil))) (ss_ret sd_bl) ss_next)
    (ss_seq (ss_if (sd_not (sd_tru (sd_is (sx_meth rfl (sx_make rfl (sd_cons (sd_lst 3 (len_cons (len_cons (len_cons len_nil))) (by decide) (sd_cons sd_int (sd_cons sd_int (sd_cons sd_int sd_nil)))) sd_nil)) (sd_cons sd_int (sd_cons (sd_op sr_add (sd_op sr_mul (sd_sl sd_var so_none (so_some sd_int)) sd_int) sd_var) (sd_cons (sd_lst 3 (len_cons (len_cons (len_cons len_nil))) (by decide) (sd_cons sd_int (sd_cons sd_int (sd_cons sd_int sd_nil)))) sd_nil)))) (sx_meth rfl (sx_make rfl (sd_cons (sd_lst 3 (len_cons (len_cons (len_cons len_nil))) (by decide) (sd_cons sd_int (sd_cons sd_int (sd_cons sd_int sd_nil)))) sd_nil)) (sd_cons sd_int (sd_cons (sd_op sr_add (sd_op sr_mul (sd_sl sd_var so_none (so_some sd_int)) sd_int) sd_var) (sd_cons (sd_lst 3 (len_cons (len_cons (len_cons len_nil))) (by decide) (sd_cons sd_int (sd_cons sd_int (sd_cons sd_int sd_nil)))) sd_nil))))))) (ss_ret sd_bl) ss_next)
    (ss_seq (ss_if (sd_tru (sd_is (sx_meth rfl (sx_make rfl (sd_cons (sd_lst 3 (len_cons (len_cons (len_cons len_nil))) (by decide) (sd_cons sd_int (sd_cons sd_int (sd_cons sd_int sd_nil)))) sd_nil)) (sd_cons sd_int (sd_cons sd_var (sd_cons (sd_lst 3 (len_cons (len_cons (len_cons len_nil))) (by decide) (sd_cons sd_int (sd_cons sd_int (sd_cons sd_int sd_nil)))) sd_nil)))) (sx_meth rfl (sx_make rfl (sd_cons (sd_lst 3 (len_cons (len_cons (len_cons len_nil))) (by decide) (sd_cons sd_int (sd_cons sd_int (sd_cons sd_int sd_nil)))) sd_nil)) (sd_cons sd_int (sd_cons sd_var (sd_cons (sd_lst 3 (len_cons (len_cons (len_cons len_nil))) (by decide) (sd_cons sd_int (sd_cons sd_int (sd_cons sd_int sd_nil)))) sd_nil)))))) (ss_ret sd_bl) ss_next)
    (ss_seq (ss_if (sd_not (sd_tru (sd_is (sx_meth rfl (sx_make rfl (sd_cons (sd_lst 3 (len_cons (len_cons (len_cons len_nil))) (by decide) (sd_cons sd_int (sd_cons sd_int (sd_cons sd_int sd_nil)))) sd_nil)) (sd_cons sd_int (sd_cons (sd_op sr_add sd_var (sd_lst 1 (len_cons len_nil) (by decide) (sd_cons (sd_tup 2 (len_cons (len_cons len_nil)) (by decide) (sd_cons sd_int (sd_cons sd_int sd_nil))) sd_nil))) (sd_cons (sd_lst 3 (len_cons (len_cons (len_cons len_nil))) (by decide) (sd_cons sd_int (sd_cons sd_int (sd_cons sd_int sd_nil)))) sd_nil)))) (sx_meth rfl (sx_make rfl (sd_cons (sd_lst 3 (len_cons (len_cons (len_cons len_nil))) (by decide) (sd_cons sd_int (sd_cons sd_int (sd_cons sd_int sd_nil)))) sd_nil)) (sd_cons sd_int (sd_cons (sd_op sr_add sd_var (sd_lst 1 (len_cons len_nil) (by decide) (sd_cons (sd_tup 2 (len_cons (len_cons len_nil)) (by decide) (sd_cons sd_int (sd_cons sd_int sd_nil))) sd_nil))) (sd_cons (sd_lst 3 (len_cons (len_cons (len_cons len_nil))) (by decide) (sd_cons sd_int (sd_cons sd_int (sd_cons sd_int sd_nil)))) sd_nil))))))) (ss_ret sd_bl) ss_next)
    (ss_seq (ss_asg (sd_lst 3 (len_cons (len_cons (len_cons len_nil))) (by decide) (sd_cons (sd_tup 3 (len_cons (len_cons (len_cons len_nil))) (by decide) (sd_cons sd_var (sd_cons (sd_lst 2 (len_cons (len_cons len_nil)) (by decide) (sd_cons sd_int (sd_cons sd_int sd_nil))) (sd_cons sd_bl sd_nil)))) (sd_cons (sd_tup 3 (len_cons (len_cons (len_cons len_nil))) (by decide) (sd_cons sd_var (sd_cons (sd_lst 2 (len_cons (len_cons len_nil)) (by decide) (sd_cons sd_int (sd_cons sd_int sd_nil))) (sd_cons sd_bl sd_nil)))) (sd_cons (sd_tup 3 (len_cons (len_cons (len_cons len_nil))) (by decide) (sd_cons sd_var (sd_cons (sd_lst 2 (len_cons (len_cons len_nil)) (by decide) (sd_cons sd_var (sd_cons sd_int sd_nil))) (sd_cons sd_bl sd_nil)))) sd_nil)))) sg_name)
    (ss_seq (ss_asg (sd_op sr_add sd_var (sd_lst 2 (len_cons (len_cons len_nil)) (by decide) (sd_cons (sd_tup 3 (len_cons (len_cons (len_cons len_nil))) (by decide) (sd_cons sd_var (sd_cons (sd_lst 2 (len_cons (len_cons len_nil)) (by decide) (sd_cons sd_int (sd_cons sd_int sd_nil))) (sd_cons sd_bl sd_nil)))) (sd_cons (sd_tup 3 (len_cons (len_cons (len_cons len_nil))) (by decide) (sd_cons (sd_lst 0 len_nil (by decide) sd_nil) (sd_cons (sd_lst 2 (len_cons (len_cons len_nil)) (by decide) (sd_cons sd_int (sd_cons sd_int sd_nil))) (sd_cons sd_bl sd_nil)))) sd_nil)))) sg_name)
    (ss_seq (ss_for (si_list sd_var) (sgx_tup (sgs_cons sg_name (sgs_cons sg_name (sgs_cons sg_name sgs_nil)))) (ss_seq (ss_asg (sx_call (sd_cons sd_int (sd_cons sd_var (sd_cons sd_var sd_nil)))) sg_name)
    (ss_if (sd_or (sd_test (sd_op sr_ne (sd_cb (sc_isiC T.cl) (sd_cons sd_var (sd_cons (sd_gl rfl) sd_nil))) sd_var)) (sd_not (sd_tru (sd_is (sx_meth rfl sd_var (sd_cons sd_int (sd_cons sd_var (sd_cons sd_var sd_nil)))) (sx_meth rfl sd_var (sd_cons sd_int (sd_cons sd_var (sd_cons sd_var sd_nil)))))))) (ss_ret sd_bl) ss_next)))
    (ss_seq (ss_if (sd_not (sd_tru (sd_cb (sc_isiC T.cl) (sd_cons (sx_call (sd_cons sd_int (sd_cons sd_var (sd_cons (sd_lst 3 (len_cons (len_cons (len_cons len_nil))) (by decide) (sd_cons sd_int (sd_cons sd_int (sd_cons sd_int sd_nil)))) sd_nil)))) (sd_cons (sd_gl rfl) sd_nil))))) (ss_ret sd_bl) ss_next)
    (ss_seq (ss_if (sd_or (sd_not (sd_tru (sd_cb (sc_isiC T.cl) (sd_cons (sx_call (sd_cons sd_int (sd_cons sd_var (sd_cons (sd_lst 3 (len_cons (len_cons (len_cons len_nil))) (by decide) (sd_cons sd_int (sd_cons sd_int (sd_cons sd_int sd_nil)))) sd_nil)))) (sd_cons (sd_gl rfl) sd_nil))))) (sd_test (sd_op sr_ne (sd_fld T.cl T.na_sharing (sx_call (sd_cons sd_int (sd_cons (sd_lst 0 len_nil (by decide) sd_nil) (sd_cons (sd_op sr_mul (sd_lst 1 (len_cons len_nil) (by decide) (sd_cons sd_int sd_nil)) sd_int) sd_nil))))) (sd_lst 0 len_nil (by decide) sd_nil)))) (ss_ret sd_bl) ss_next)
    (ss_seq (ss_if (sd_or (sd_test (sd_op sr_ne (sx_call (sd_cons sd_int (sd_cons sd_var (sd_cons (sd_lst 3 (len_cons (len_cons (len_cons len_nil))) (by decide) (sd_cons sd_int (sd_cons sd_int (sd_cons sd_int sd_nil)))) sd_nil)))) (sd_lst 2 (len_cons (len_cons len_nil)) (by decide) (sd_cons sd_int (sd_cons sd_int sd_nil))))) (sd_test (sd_op sr_ne (sx_call (sd_cons sd_int (sd_cons (sd_lst 0 len_nil (by decide) sd_nil) (sd_cons (sd_lst 0 len_nil (by decide) sd_nil) sd_nil)))) (sd_lst 3 (len_cons (len_cons (len_cons len_nil))) (by decide) (sd_cons sd_int (sd_cons sd_int (sd_cons sd_int sd_nil))))))) (ss_ret sd_bl) ss_next)
    (ss_ret (sd_op sr_eq (sx_call (sd_cons sd_int (sd_cons sd_var (sd_cons (sd_lst 3 (len_cons (len_cons (len_cons len_nil))) (by decide) (sd_cons sd_int (sd_cons sd_int (sd_cons sd_int sd_nil)))) sd_nil)))) (sd_lst 3 (len_cons (len_cons (len_cons len_nil))) (by decide) (sd_cons sd_int (sd_cons sd_int (sd_cons sd_int sd_nil)))))))))))))))))))))))))⟩))

abbrev s__law_even_right : Stmt := top 41
theorem sc__law_even_right : FnScope ["_law_tree", "_law_ring", "_law_pair", "_law_cases", "_law_people", "_law_tasks", "_law_most", "_law_found", "_law_told", "_law_due"] [] (defScope s__law_even_right) := ⟨rfl, rfl, rfl, by decide +kernel, rfl, by decide +kernel, by decide +kernel⟩
theorem ok__law_even_right {f : Addr} {fd : FuncData} (F : Fun g.K "_law_even_right" "_law_even_right" s__law_even_right f fd) (T : Tx g mg) (m_Even : MkcX P w g.K mg base 1 "Even" (g.γ "Even") ["self", "sharing", "some"] (iSpX g i_Even_init)) (c_Even_shows : McalX P w g.K mg base 3 (g.γ "Even") "shows" ["self", "people", "tasks"] (iSpX g i_Even_shows)) (c_evenest : Cal P w g.K mg base (CXN P w) 4 "evenest" ["people", "tasks"] (iSpX g i_evenest)) (c_loads : Cal P w g.K mg base (CXN P w) 4 "loads" ["people", "tasks", "sharing"] (iSpX g i_loads)) : FnOk P w g.K mg base (CXN P w) 5 f fd [] (iSpX g i__law_even_right) :=
  gc_ok (okN F sc__law_even_right (iSpX_len rfl) (fun cdv AA outer s H vs Q E hr h => ⟨_, (pss_cons (ps_par3 (i := 0) (j := 1) (l := 2) (by rfl) sc__law_even_right.nd rfl rfl rfl (by decide) (by decide) (by decide) rfl rfl rfl (pa_cons (pe_lst (pa_cons (pe_tup (pa_cons pe_int (pa_cons pe_int pa_nil))) (pa_cons (pe_tup (pa_cons pe_int (pa_cons pe_int pa_nil))) (pa_cons (pe_tup (pa_cons pe_int (pa_cons pe_int pa_nil))) pa_nil)))) (pa_cons (pe_lst (pa_cons (pe_tup (pa_cons pe_int (pa_cons pe_int pa_nil))) (pa_cons (pe_tup (pa_cons pe_int (pa_cons pe_int pa_nil))) (pa_cons (pe_tup (pa_cons pe_int (pa_cons pe_int pa_nil))) pa_nil)))) (pa_cons (pe_op op_MUL (pe_lst (pa_cons (pe_tup (pa_cons pe_int (pa_cons pe_int pa_nil))) pa_nil)) pe_int) pa_nil))) rfl)
    (pss_cons (ps_set (i := 3) sc__law_even_right.nd rfl (by first | exact Or.inl rfl | exact Or.inr rfl) (pe_lst (pa_cons (pe_tup (pa_cons pe_int (pa_cons (pv 0) (pa_cons (px_mkc m_Even (hr.mono (by decide)) (by rfl) passD (pa_cons (pe_lst (pa_cons pe_int (pa_cons pe_int (pa_cons pe_int pa_nil)))) (pa_cons (pe_lst (pa_cons pe_int (pa_cons pe_int pa_nil))) pa_nil))) (pa_cons pe_bl pa_nil))))) (pa_cons (pe_tup (pa_cons pe_int (pa_cons (pv 0) (pa_cons (px_mkc m_Even (hr.mono (by decide)) (by rfl) passD (pa_cons (pe_lst (pa_cons pe_int (pa_cons pe_int (pa_cons pe_int pa_nil)))) (pa_cons (pe_lst pa_nil) pa_nil))) (pa_cons pe_bl pa_nil))))) pa_nil))))
    (pss_cons (ps_set (i := 3) sc__law_even_right.nd rfl (by first | exact Or.inl rfl | exact Or.inr rfl) (pe_op op_ADD (pv 3) (pe_lst (pa_cons (pe_tup (pa_cons pe_int (pa_cons (pv 0) (pa_cons (px_mkc m_Even (hr.mono (by decide)) (by rfl) passD (pa_cons (pe_lst (pa_cons pe_int (pa_cons pe_int (pa_cons pe_int pa_nil)))) (pa_cons (pe_lst (pa_cons pe_int (pa_cons pe_int (pa_cons pe_int (pa_cons pe_int pa_nil))))) pa_nil))) (pa_cons pe_bl pa_nil))))) pa_nil))))
    (pss_cons (ps_set (i := 3) sc__law_even_right.nd rfl (by first | exact Or.inl rfl | exact Or.inr rfl) (pe_op op_ADD (pv 3) (pe_lst (pa_cons (pe_tup (pa_cons pe_int (pa_cons (pv 0) (pa_cons (px_mkc m_Even (hr.mono (by decide)) (by rfl) passD (pa_cons (pe_lst (pa_cons pe_int (pa_cons pe_int (pa_cons pe_int pa_nil)))) (pa_cons (pe_lst (pa_cons pe_int (pa_cons pe_int (pa_cons pe_int (pa_cons pe_int pa_nil))))) pa_nil))) (pa_cons pe_bl pa_nil))))) pa_nil))))
    (pss_cons (ps_set (i := 3) sc__law_even_right.nd rfl (by first | exact Or.inl rfl | exact Or.inr rfl) (pe_op op_ADD (pv 3) (pe_lst (pa_cons (pe_tup (pa_cons pe_int (pa_cons (pv 1) (pa_cons (px_mkc m_Even (hr.mono (by decide)) (by rfl) passD (pa_cons (pe_lst (pa_cons pe_int (pa_cons pe_int (pa_cons pe_int pa_nil)))) (pa_cons (pe_lst (pa_cons pe_int (pa_cons pe_int (pa_cons pe_int pa_nil)))) pa_nil))) (pa_cons pe_bl pa_nil))))) pa_nil))))
    (pss_cons (ps_set (i := 3) sc__law_even_right.nd rfl (by first | exact Or.inl rfl | exact Or.inr rfl) (pe_op op_ADD (pv 3) (pe_lst (pa_cons (pe_tup (pa_cons pe_int (pa_cons (pv 1) (pa_cons (px_mkc m_Even (hr.mono (by decide)) (by rfl) passD (pa_cons (pe_lst (pa_cons pe_int (pa_cons pe_int (pa_cons pe_int pa_nil)))) (pa_cons (pe_lst (pa_cons pe_int (pa_cons pe_int pa_nil))) pa_nil))) (pa_cons pe_bl pa_nil))))) (pa_cons (pe_tup (pa_cons pe_int (pa_cons (pv 2) (pa_cons (px_mkc m_Even (hr.mono (by decide)) (by rfl) passD (pa_cons (pe_lst (pa_cons pe_int (pa_cons pe_int (pa_cons pe_int pa_nil)))) (pa_cons (pe_lst (pa_cons pe_int (pa_cons pe_int pa_nil))) pa_nil))) (pa_cons pe_bl pa_nil))))) pa_nil)))))
    (pss_cons (ps_set (i := 3) sc__law_even_right.nd rfl (by first | exact Or.inl rfl | exact Or.inr rfl) (pe_op op_ADD (pv 3) (pe_lst (pa_cons (pe_tup (pa_cons pe_int (pa_cons (pv 2) (pa_cons (px_mkc m_Even (hr.mono (by decide)) (by rfl) passD (pa_cons (pe_lst (pa_cons pe_int (pa_cons pe_int (pa_cons pe_int pa_nil)))) (pa_cons (pe_lst (pa_cons pe_int (pa_cons pe_int pa_nil))) pa_nil))) (pa_cons pe_bl pa_nil))))) pa_nil))))
    (pss_cons (ps_set (i := 3) sc__law_even_right.nd rfl (by first | exact Or.inl rfl | exact Or.inr rfl) (pe_op op_ADD (pv 3) (pe_lst (pa_cons (pe_tup (pa_cons pe_int (pa_cons (pv 2) (pa_cons (px_mkc m_Even (hr.mono (by decide)) (by rfl) passD (pa_cons (pe_lst (pa_cons pe_int (pa_cons pe_int (pa_cons pe_int pa_nil)))) (pa_cons (pe_lst (pa_cons pe_int (pa_cons pe_int pa_nil))) pa_nil))) (pa_cons pe_bl pa_nil))))) (pa_cons (pe_tup (pa_cons pe_int (pa_cons (pe_lst pa_nil) (pa_cons (px_mkc m_Even (hr.mono (by decide)) (by rfl) passD (pa_cons (pe_lst pa_nil) (pa_cons (pe_lst pa_nil) pa_nil))) (pa_cons pe_bl pa_nil))))) pa_nil)))))
    (pss_cons (ps_set (i := 3) sc__law_even_right.nd rfl (by first | exact Or.inl rfl | exact Or.inr rfl) (pe_op op_ADD (pv 3) (pe_lst (pa_cons (pe_tup (pa_cons pe_int (pa_cons (pe_lst pa_nil) (pa_cons (px_mkc m_Even (hr.mono (by decide)) (by rfl) passD (pa_cons (pe_lst pa_nil) (pa_cons (pe_lst (pa_cons pe_int pa_nil)) pa_nil))) (pa_cons pe_bl pa_nil))))) (pa_cons (pe_tup (pa_cons pe_int (pa_cons (pv 2) (pa_cons (px_mkc m_Even (hr.mono (by decide)) (by rfl) passD (pa_cons (pe_lst (pa_cons pe_int (pa_cons pe_int pa_nil))) (pa_cons (pe_lst (pa_cons pe_int (pa_cons pe_int pa_nil))) pa_nil))) (pa_cons pe_bl pa_nil))))) pa_nil)))))
    (pss_cons (ps_set (i := 3) sc__law_even_right.nd rfl (by first | exact Or.inl rfl | exact Or.inr rfl) (pe_op op_ADD (pv 3) (pe_lst (pa_cons (pe_tup (pa_cons pe_int (pa_cons (pv 1) (pa_cons (px_mkc m_Even (hr.mono (by decide)) (by rfl) passD (pa_cons (pe_lst (pa_cons pe_int (pa_cons pe_int (pa_cons pe_int pa_nil)))) (pa_cons (pe_lst (pa_cons pe_int pa_nil)) pa_nil))) (pa_cons pe_bl pa_nil))))) pa_nil))))
    (pss_cons (ps_if (pt_truth (pe_callB (cr_any rfl) (by rfl) T.b.any (by decide +kernel) (pa_cons (pe_lc (own := [("_law_people", 4), ("_law_tasks", 5), ("_law_told", 8), ("_law_due", 9)]) (by rfl) sc__law_even_right.nd (pi_list (pv 3)) (blkOk_by (own := [("_law_people", 4), ("_law_tasks", 5), ("_law_told", 8), ("_law_due", 9)]) (N := ["_law_tree", "_law_ring", "_law_pair", "_law_cases", "_law_people", "_law_tasks", "_law_most", "_law_found", "_law_told", "_law_due"]) (sc := defScope s__law_even_right) (by decide +kernel)) (fun _ _ _ _ _ => (pg_tup rfl (pgs_cons (pg_name (i := 4) sc__law_even_right.nd rfl (by first | exact Or.inl rfl | exact Or.inr rfl)) (pgs_cons (pg_name (i := 5) sc__law_even_right.nd rfl (by first | exact Or.inl rfl | exact Or.inr rfl)) (pgs_cons (pg_name (i := 8) sc__law_even_right.nd rfl (by first | exact Or.inl rfl | exact Or.inr rfl)) (pgs_cons (pg_name (i := 9) sc__law_even_right.nd rfl (by first | exact Or.inl rfl | exact Or.inr rfl)) pgs_nil)))))) (fun _ _ _ _ _ => pts_nil) (fun _ _ _ _ _ => (pe_cmpR (op_neD hr.units) (px_mcal c_Even_shows (hr.mono (by decide)) passN0 (pv 8) (pa_cons (pv 4) (pa_cons (pv 5) pa_nil))) (pv 9) (nomark _)))) pa_nil)) (fun _ => rfl)) (pss_one (ps_ret pe_bl)) pss_nil)
    (pss_cons (ps_set (i := 3) sc__law_even_right.nd rfl (by first | exact Or.inl rfl | exact Or.inr rfl) (pe_lst (pa_cons (pe_tup (pa_cons pe_int (pa_cons (pv 0) (pa_cons pe_int pa_nil)))) (pa_cons (pe_tup (pa_cons pe_int (pa_cons (pv 1) (pa_cons pe_int pa_nil)))) (pa_cons (pe_tup (pa_cons pe_int (pa_cons (pv 2) (pa_cons pe_int pa_nil)))) (pa_cons (pe_tup (pa_cons pe_int (pa_cons (pe_op op_ADD (pv 0) (pv 1)) (pa_cons pe_int pa_nil)))) (pa_cons (pe_tup (pa_cons pe_int (pa_cons (pe_op op_MUL (pe_lst (pa_cons (pe_tup (pa_cons pe_int (pa_cons pe_int pa_nil))) pa_nil)) pe_int) (pa_cons pe_int pa_nil)))) (pa_cons (pe_tup (pa_cons pe_int (pa_cons (pe_lst pa_nil) (pa_cons pe_int pa_nil)))) pa_nil))))))))
    (pss_cons (ps_for ownD (by rfl) (pi_list (pv 3)) (pg_tup rfl (pgs_cons (pg_name (i := 4) sc__law_even_right.nd rfl (by first | exact Or.inl rfl | exact Or.inr rfl)) (pgs_cons (pg_name (i := 5) sc__law_even_right.nd rfl (by first | exact Or.inl rfl | exact Or.inr rfl)) (pgs_cons (pg_name (i := 6) sc__law_even_right.nd rfl (by first | exact Or.inl rfl | exact Or.inr rfl)) pgs_nil)))) (pss_cons (ps_set (i := 7) sc__law_even_right.nd rfl (by first | exact Or.inl rfl | exact Or.inr rfl) (px_cal c_evenest (hr.mono (by decide)) (by rfl) passD (pa_cons (pv 4) (pa_cons (pv 5) pa_nil))))
    (pss_one (ps_if (pw_or (pt_not (pt_truth (px_mcal c_Even_shows (hr.mono (by decide)) passD (pv 7) (pa_cons (pv 4) (pa_cons (pv 5) pa_nil))) (fun _ => rfl))) (pw_or1 (pt_cmpR (op_neD hr.units) (pe_callB (call_MAX rfl) (by rfl) T.b.max (by decide +kernel) (pa_cons (px_cal c_loads (hr.mono (by decide)) (by rfl) passD (pa_cons (pv 4) (pa_cons (pv 5) (pa_cons (pe_fld (pv 7) rfl) pa_nil)))) pa_nil)) (pv 6) (nomark _)))).pt (pss_one (ps_ret pe_bl)) pss_nil))))
    (pss_one (ps_ret (pe_cmpR (op_eqD hr.units) (pe_tup (pa_cons (pe_fld (px_cal c_evenest (hr.mono (by decide)) (by rfl) passD (pa_cons pe_int (pa_cons (pe_lst pa_nil) pa_nil))) rfl) (pa_cons (pe_fld (px_cal c_evenest (hr.mono (by decide)) (by rfl) passD (pa_cons pe_int (pa_cons (pe_lst pa_nil) pa_nil))) rfl) pa_nil))) (pe_tup (pa_cons (pe_lst pa_nil) (pa_cons (pe_lst pa_nil) pa_nil))) (nomark _))))))))))))))))), bodyX h rfl ((ss_seq (ss_par3 (sd_cons (sd_lst 3 (len_cons (len_cons (len_cons len_nil))) (by decide) (sd_cons (sd_tup 2 (len_cons (len_cons len_nil)) (by decide) (sd_cons sd_int (sd_cons sd_int sd_nil))) (sd_cons (sd_tup 2 (len_cons (len_cons len_nil)) (by decide) (sd_cons sd_int (sd_cons sd_int sd_nil))) (sd_cons (sd_tup 2 (len_cons (len_cons len_nil)) (by decide) (sd_cons sd_int (sd_cons sd_int sd_nil))) sd_nil)))) (sd_cons (sd_lst 3 (len_cons (len_cons (len_cons len_nil))) (by decide) (sd_cons (sd_tup 2 (len_cons (len_cons len_nil)) (by decide) (sd_cons sd_int (sd_cons sd_int sd_nil))) (sd_cons (sd_tup 2 (len_cons (len_cons len_nil)) (by decide) (sd_cons sd_int (sd_cons sd_int sd_nil))) (sd_cons (sd_tup 2 (len_cons (len_cons len_nil)) (by decide) (sd_cons sd_int (sd_cons sd_int sd_nil))) sd_nil)))) (sd_cons (sd_op sr_mul (sd_lst 1 (len_cons len_nil) (by decide) (sd_cons (sd_tup 2 (len_cons (len_cons len_nil)) (by decide) (sd_cons sd_int (sd_cons sd_int sd_nil))) sd_nil)) sd_int) sd_nil))))
    (ss_seq (ss_asg (sd_lst 2 (len_cons (len_cons len_nil)) (by decide) (sd_cons (sd_tup 4 (len_cons (len_cons (len_cons (len_cons len_nil)))) (by decide) (sd_cons sd_int (sd_cons sd_var (sd_cons (sx_make rfl (sd_cons (sd_lst 3 (len_cons (len_cons (len_cons len_nil))) (by decide) (sd_cons sd_int (sd_cons sd_int (sd_cons sd_int sd_nil)))) (sd_cons (sd_lst 2 (len_cons (len_cons len_nil)) (by decide) (sd_cons sd_int (sd_cons sd_int sd_nil))) sd_nil))) (sd_cons sd_bl sd_nil))))) (sd_cons (sd_tup 4 (len_cons (len_cons (len_cons (len_cons len_nil)))) (by decide) (sd_cons sd_int (sd_cons sd_var (sd_cons (sx_make rfl (sd_cons (sd_lst 3 (len_cons (len_cons (len_cons len_nil))) (by decide) (sd_cons sd_int (sd_cons sd_int (sd_cons sd_int sd_nil)))) (sd_cons (sd_lst 0 len_nil (by decide) sd_nil) sd_nil))) (sd_cons sd_bl sd_nil))))) sd_nil))) sg_name)
    (ss_seq (ss_asg (sd_op sr_add sd_var (sd_lst 1 (len_cons len_nil) (by decide) (sd_cons (sd_tup 4 (len_cons (len_cons (len_cons (len_cons len_nil)))) (by decide) (sd_cons sd_int (sd_cons sd_var (sd_cons (sx_make rfl (sd_cons (sd_lst 3 (len_cons (len_cons (len_cons len_nil))) (by decide) (sd_cons sd_int (sd_cons sd_int (sd_cons sd_int sd_nil)))) (sd_cons (sd_lst 4 (len_cons (len_cons (len_cons (len_cons len_nil)))) (by decide) (sd_cons sd_int (sd_cons sd_int (sd_cons sd_int (sd_cons sd_int sd_nil))))) sd_nil))) (sd_cons sd_bl sd_nil))))) sd_nil))) sg_name)
    (ss_seq (ss_asg (sd_op sr_add sd_var (sd_lst 1 (len_cons len_nil) (by decide) (sd_cons (sd_tup 4 (len_cons (len_cons (len_cons (len_cons len_nil)))) (by decide) (sd_cons sd_int (sd_cons sd_var (sd_cons (sx_make rfl (sd_cons (sd_lst 3 (len_cons (len_cons (len_cons len_nil))) (by decide) (sd_cons sd_int (sd_cons sd_int (sd_cons sd_int sd_nil)))) (sd_cons (sd_lst 4 (len_cons (len_cons (len_cons (len_cons len_nil)))) (by decide) (sd_cons sd_int (sd_cons sd_int (sd_cons sd_int (sd_cons sd_int sd_nil))))) sd_nil))) (sd_cons sd_bl sd_nil))))) sd_nil))) sg_name)
    (ss_seq (ss_asg (sd_op sr_add sd_var (sd_lst 1 (len_cons len_nil) (by decide) (sd_cons (sd_tup 4 (len_cons (len_cons (len_cons (len_cons len_nil)))) (by decide) (sd_cons sd_int (sd_cons sd_var (sd_cons (sx_make rfl (sd_cons (sd_lst 3 (len_cons (len_cons (len_cons len_nil))) (by decide) (sd_cons sd_int (sd_cons sd_int (sd_cons sd_int sd_nil)))) (sd_cons (sd_lst 3 (len_cons (len_cons (len_cons len_nil))) (by decide) (sd_cons sd_int (sd_cons sd_int (sd_cons sd_int sd_nil)))) sd_nil))) (sd_cons sd_bl sd_nil))))) sd_nil))) sg_name)
    (ss_seq (ss_asg (sd_op sr_add sd_var (sd_lst 2 (len_cons (len_cons len_nil)) (by decide) (sd_cons (sd_tup 4 (len_cons (len_cons (len_cons (len_cons len_nil)))) (by decide) (sd_cons sd_int (sd_cons sd_var (sd_cons (sx_make rfl (sd_cons (sd_lst 3 (len_cons (len_cons (len_cons len_nil))) (by decide) (sd_cons sd_int (sd_cons sd_int (sd_cons sd_int sd_nil)))) (sd_cons (sd_lst 2 (len_cons (len_cons len_nil)) (by decide) (sd_cons sd_int (sd_cons sd_int sd_nil))) sd_nil))) (sd_cons sd_bl sd_nil))))) (sd_cons (sd_tup 4 (len_cons (len_cons (len_cons (len_cons len_nil)))) (by decide) (sd_cons sd_int (sd_cons sd_var (sd_cons (sx_make rfl (sd_cons (sd_lst 3 (len_cons (len_cons (len_cons len_nil))) (by decide) (sd_cons sd_int (sd_cons sd_int (sd_cons sd_int sd_nil)))) (sd_cons (sd_lst 2 (len_cons (len_cons len_nil)) (by decide) (sd_cons sd_int (sd_cons sd_int sd_nil))) sd_nil))) (sd_cons sd_bl sd_nil))))) sd_nil)))) sg_name)
    (ss_seq (ss_asg (sd_op sr_add sd_var (sd_lst 1 (len_cons len_nil) (by decide) (sd_cons (sd_tup 4 (len_cons (len_cons (len_cons (len_cons len_nil)))) (by decide) (sd_cons sd_int (sd_cons sd_var (sd_cons (sx_make rfl (sd_cons (sd_lst 3 (len_cons (len_cons (len_cons len_nil))) (by decide) (sd_cons sd_int (sd_cons sd_int (sd_cons sd_int sd_nil)))) (sd_cons (sd_lst 2 (len_cons (len_cons len_nil)) (by decide) (sd_cons sd_int (sd_cons sd_int sd_nil))) sd_nil))) (sd_cons sd_bl sd_nil))))) sd_nil))) sg_name)
    (ss_seq (ss_asg (sd_op sr_add sd_var (sd_lst 2 (len_cons (len_cons len_nil)) (by decide) (sd_cons (sd_tup 4 (len_cons (len_cons (len_cons (len_cons len_nil)))) (by decide) (sd_cons sd_int (sd_cons sd_var (sd_cons (sx_make rfl (sd_cons (sd_lst 3 (len_cons (len_cons (len_cons len_nil))) (by decide) (sd_cons sd_int (sd_cons sd_int (sd_cons sd_int sd_nil)))) (sd_cons (sd_lst 2 (len_cons (len_cons len_nil)) (by decide) (sd_cons sd_int (sd_cons sd_int sd_nil))) sd_nil))) (sd_cons sd_bl sd_nil))))) (sd_cons (sd_tup 4 (len_cons (len_cons (len_cons (len_cons len_nil)))) (by decide) (sd_cons sd_int (sd_cons (sd_lst 0 len_nil (by decide) sd_nil) (sd_cons (sx_make rfl (sd_cons (sd_lst 0 len_nil (by decide) sd_nil) (sd_cons (sd_lst 0 len_nil (by decide) sd_nil) sd_nil))) (sd_cons sd_bl sd_nil))))) sd_nil)))) sg_name)
    (ss_seq (ss_asg (sd_op sr_add sd_var (sd_lst 2 (len_cons (len_cons len_nil)) (by decide) (sd_cons (sd_tup 4 (len_cons (len_cons (len_cons (len_cons len_nil)))) (by decide) (sd_cons sd_int (sd_cons (sd_lst 0 len_nil (by decide) sd_nil) (sd_cons (sx_make rfl (sd_cons (sd_lst 0 len_nil (by decide) sd_nil) (sd_cons (sd_lst 1 (len_cons len_nil) (by decide) (sd_cons sd_int sd_nil)) sd_nil))) (sd_cons sd_bl sd_nil))))) (sd_cons (sd_tup 4 (len_cons (len_cons (len_cons (len_cons len_nil)))) (by decide) (sd_cons sd_int (sd_cons sd_var (sd_cons (sx_make rfl (sd_cons (sd_lst 2 (len_cons (len_cons len_nil)) (by decide) (sd_cons sd_int (sd_cons sd_int sd_nil))) (sd_cons (sd_lst 2 (len_cons (len_cons len_nil)) (by decide) (sd_cons sd_int (sd_cons sd_int sd_nil))) sd_nil))) (sd_cons sd_bl sd_nil))))) sd_nil)))) sg_name)
    (ss_seq (ss_asg (sd_op sr_add sd_var (sd_lst 1 (len_cons len_nil) (by decide) (sd_cons (sd_tup 4 (len_cons (len_cons (len_cons (len_cons len_nil)))) (by decide) (sd_cons sd_int (sd_cons sd_var (sd_cons (sx_make rfl (sd_cons (sd_lst 3 (len_cons (len_cons (len_cons len_nil))) (by decide) (sd_cons sd_int (sd_cons sd_int (sd_cons sd_int sd_nil)))) (sd_cons (sd_lst 1 (len_cons len_nil) (by decide) (sd_cons sd_int sd_nil)) sd_nil))) (sd_cons sd_bl sd_nil))))) sd_nil))) sg_name)
    (ss_seq (ss_if (sd_tru (sd_cb sc_any (sd_cons (sd_lc (si_list sd_var) (sg_tup (sgs_cons sg_name (sgs_cons sg_name (sgs_cons sg_name (sgs_cons sg_name sgs_nil))))) (wp_tup (wps_cons (by simp) (wps_cons (by simp) (wps_cons (by simp) (wps_cons (by simp) wps_nil))))) sd_yes (sd_op sr_ne (sx_meth0 rfl sd_var (sd_cons sd_var (sd_cons sd_var sd_nil))) sd_var)) sd_nil))) (ss_ret sd_bl) ss_next)
    (ss_seq (ss_asg (sd_lst 6 (len_cons (len_cons (len_cons (len_cons (len_cons (len_cons len_nil)))))) (by decide) (sd_cons (sd_tup 3 (len_cons (len_cons (len_cons len_nil))) (by decide) (sd_cons sd_int (sd_cons sd_var (sd_cons sd_int sd_nil)))) (sd_cons (sd_tup 3 (len_cons (len_cons (len_cons len_nil))) (by decide) (sd_cons sd_int (sd_cons sd_var (sd_cons sd_int sd_nil)))) (sd_cons (sd_tup 3 (len_cons (len_cons (len_cons len_nil))) (by decide) (sd_cons sd_int (sd_cons sd_var (sd_cons sd_int sd_nil)))) (sd_cons (sd_tup 3 (len_cons (len_cons (len_cons len_nil))) (by decide) (sd_cons sd_int (sd_cons (sd_op sr_add sd_var sd_var) (sd_cons sd_int sd_nil)))) (sd_cons (sd_tup 3 (len_cons (len_cons (len_cons len_nil))) (by decide) (sd_cons sd_int (sd_cons (sd_op sr_mul (sd_lst 1 (len_cons len_nil) (by decide) (sd_cons (sd_tup 2 (len_cons (len_cons len_nil)) (by decide) (sd_cons sd_int (sd_cons sd_int sd_nil))) sd_nil)) sd_int) (sd_cons sd_int sd_nil)))) (sd_cons (sd_tup 3 (len_cons (len_cons (len_cons len_nil))) (by decide) (sd_cons sd_int (sd_cons (sd_lst 0 len_nil (by decide) sd_nil) (sd_cons sd_int sd_nil)))) sd_nil))))))) sg_name)
    (ss_seq (ss_for (si_list sd_var) (sgx_tup (sgs_cons sg_name (sgs_cons sg_name (sgs_cons sg_name sgs_nil)))) (ss_seq (ss_asg (sx_call (sd_cons sd_var (sd_cons sd_var sd_nil))) sg_name)
    (ss_if (sd_or (sd_not (sd_tru (sx_meth rfl sd_var (sd_cons sd_var (sd_cons sd_var sd_nil))))) (sd_test (sd_op sr_ne (sd_cb sc_max (sd_cons (sx_call (sd_cons sd_var (sd_cons sd_var (sd_cons (sd_fld T.cl T.na_sharing sd_var) sd_nil)))) sd_nil)) sd_var))) (ss_ret sd_bl) ss_next)))
    (ss_ret (sd_op sr_eq (sd_tup 2 (len_cons (len_cons len_nil)) (by decide) (sd_cons (sd_fld T.cl T.na_sharing (sx_call (sd_cons sd_int (sd_cons (sd_lst 0 len_nil (by decide) sd_nil) sd_nil)))) (sd_cons (sd_fld T.cl T.na_some (sx_call (sd_cons sd_int (sd_cons (sd_lst 0 len_nil (by decide) sd_nil) sd_nil)))) sd_nil))) (sd_tup 2 (len_cons (len_cons len_nil)) (by decide) (sd_cons (sd_lst 0 len_nil (by decide) sd_nil) (sd_cons (sd_lst 0 len_nil (by decide) sd_nil) sd_nil)))))))))))))))))))⟩))

abbrev s__law_passed_right : Stmt := top 42
theorem sc__law_passed_right : FnScope ["_law_tasks", "_law_sharing", "_law_cases", "_law_found", "_law_late", "_law_at", "_law_told", "_law_one", "_law_other", "_law_due"] [] (defScope s__law_passed_right) := ⟨rfl, rfl, rfl, by decide +kernel, rfl, by decide +kernel, by decide +kernel⟩
theorem ok__law_passed_right {f : Addr} {fd : FuncData} (F : Fun g.K "_law_passed_right" "_law_passed_right" s__law_passed_right f fd) (T : Tx g mg) (m_Chain : MkcX P w g.K mg base 1 "Chain" (g.γ "Chain") ["self", "tasks"] (iSpX g i_Chain_init)) (m_Side : MkcX P w g.K mg base 1 "Side" (g.γ "Side") ["self", "some"] (iSpX g i_Side_init)) (c_Chain_shows : McalX P w g.K mg base 2 (g.γ "Chain") "shows" ["self", "people", "tasks", "sharing", "one", "other"] (iSpX g i_Chain_shows)) (c_Side_shows : McalX P w g.K mg base 2 (g.γ "Side") "shows" ["self", "people", "tasks", "sharing", "one", "other"] (iSpX g i_Side_shows)) (c_passed : Cal P w g.K mg base (CXN P w) 4 "passed" ["people", "tasks", "sharing", "one", "other"] (iSpX g i_passed)) (c_loads : Cal P w g.K mg base (CXN P w) 4 "loads" ["people", "tasks", "sharing"] (iSpX g i_loads)) : FnOk P w g.K mg base (CXN P w) 5 f fd [] (iSpX g i__law_passed_right) :=
  gc_ok (okN F sc__law_passed_right (iSpX_len rfl) (fun cdv AA outer s H vs Q E hr h => ⟨_, (pss_cons (ps_set (i := 0) sc__law_passed_right.nd rfl (by first | exact Or.inl rfl | exact Or.inr rfl) (pe_lst (pa_cons (pe_tup (pa_cons pe_int (pa_cons pe_int pa_nil))) (pa_cons (pe_tup (pa_cons pe_int (pa_cons pe_int pa_nil))) (pa_cons (pe_tup (pa_cons pe_int (pa_cons pe_int pa_nil))) (pa_cons (pe_tup (pa_cons pe_int (pa_cons pe_int pa_nil))) pa_nil))))))
    (pss_cons (ps_set (i := 1) sc__law_passed_right.nd rfl (by first | exact Or.inl rfl | exact Or.inr rfl) (pe_lst (pa_cons pe_int (pa_cons pe_int (pa_cons pe_int (pa_cons pe_int pa_nil))))))
    (pss_cons (ps_set (i := 2) sc__law_passed_right.nd rfl (by first | exact Or.inl rfl | exact Or.inr rfl) (pe_lst (pa_cons (pe_tup (pa_cons (px_mkc m_Chain (hr.mono (by decide)) (by rfl) passD (pa_cons (pe_lst (pa_cons pe_int (pa_cons pe_int (pa_cons pe_int pa_nil)))) pa_nil)) (pa_cons pe_int (pa_cons pe_int (pa_cons pe_bl pa_nil))))) (pa_cons (pe_tup (pa_cons (px_mkc m_Chain (hr.mono (by decide)) (by rfl) passD (pa_cons (pe_lst (pa_cons pe_int (pa_cons pe_int pa_nil))) pa_nil)) (pa_cons pe_int (pa_cons pe_int (pa_cons pe_bl pa_nil))))) pa_nil))))
    (pss_cons (ps_set (i := 2) sc__law_passed_right.nd rfl (by first | exact Or.inl rfl | exact Or.inr rfl) (pe_op op_ADD (pv 2) (pe_lst (pa_cons (pe_tup (pa_cons (px_mkc m_Chain (hr.mono (by decide)) (by rfl) passD (pa_cons (pe_lst (pa_cons pe_int pa_nil)) pa_nil)) (pa_cons pe_int (pa_cons pe_int (pa_cons pe_bl pa_nil))))) (pa_cons (pe_tup (pa_cons (px_mkc m_Chain (hr.mono (by decide)) (by rfl) passD (pa_cons (pe_lst pa_nil) pa_nil)) (pa_cons pe_int (pa_cons pe_int (pa_cons pe_bl pa_nil))))) (pa_cons (pe_tup (pa_cons (px_mkc m_Chain (hr.mono (by decide)) (by rfl) passD (pa_cons (pe_lst (pa_cons pe_int (pa_cons pe_int pa_nil))) pa_nil)) (pa_cons pe_int (pa_cons pe_int (pa_cons pe_bl pa_nil))))) pa_nil))))))
    (pss_cons (ps_set (i := 2) sc__law_passed_right.nd rfl (by first | exact Or.inl rfl | exact Or.inr rfl) (pe_op op_ADD (pv 2) (pe_lst (pa_cons (pe_tup (pa_cons (px_mkc m_Chain (hr.mono (by decide)) (by rfl) passD (pa_cons (pe_lst (pa_cons pe_int (pa_cons pe_int (pa_cons pe_int (pa_cons pe_int (pa_cons pe_int (pa_cons pe_int pa_nil))))))) pa_nil)) (pa_cons pe_int (pa_cons pe_int (pa_cons pe_bl pa_nil))))) pa_nil))))
    (pss_cons (ps_set (i := 2) sc__law_passed_right.nd rfl (by first | exact Or.inl rfl | exact Or.inr rfl) (pe_op op_ADD (pv 2) (pe_lst (pa_cons (pe_tup (pa_cons (px_mkc m_Chain (hr.mono (by decide)) (by rfl) passD (pa_cons (pe_lst (pa_cons pe_int (pa_cons pe_int (pa_cons pe_int pa_nil)))) pa_nil)) (pa_cons pe_int (pa_cons pe_int (pa_cons pe_bl pa_nil))))) (pa_cons (pe_tup (pa_cons (px_mkc m_Chain (hr.mono (by decide)) (by rfl) passD (pa_cons (pe_lst (pa_cons pe_int (pa_cons pe_int pa_nil))) pa_nil)) (pa_cons pe_int (pa_cons pe_int (pa_cons pe_bl pa_nil))))) pa_nil)))))
    (pss_cons (ps_set (i := 2) sc__law_passed_right.nd rfl (by first | exact Or.inl rfl | exact Or.inr rfl) (pe_op op_ADD (pv 2) (pe_lst (pa_cons (pe_tup (pa_cons (px_mkc m_Chain (hr.mono (by decide)) (by rfl) passD (pa_cons (pe_lst (pa_cons (pe_un un_neg pe_int) pa_nil)) pa_nil)) (pa_cons pe_int (pa_cons pe_int (pa_cons pe_bl pa_nil))))) (pa_cons (pe_tup (pa_cons (px_mkc m_Chain (hr.mono (by decide)) (by rfl) passD (pa_cons (pe_lst (pa_cons pe_int (pa_cons pe_int pa_nil))) pa_nil)) (pa_cons pe_int (pa_cons pe_int (pa_cons pe_bl pa_nil))))) (pa_cons (pe_tup (pa_cons (px_mkc m_Side (hr.mono (by decide)) (by rfl) passD (pa_cons (pe_lst (pa_cons pe_int pa_nil)) pa_nil)) (pa_cons pe_int (pa_cons pe_int (pa_cons pe_bl pa_nil))))) pa_nil))))))
    (pss_cons (ps_set (i := 2) sc__law_passed_right.nd rfl (by first | exact Or.inl rfl | exact Or.inr rfl) (pe_op op_ADD (pv 2) (pe_lst (pa_cons (pe_tup (pa_cons (px_mkc m_Side (hr.mono (by decide)) (by rfl) passD (pa_cons (pe_lst (pa_cons pe_int (pa_cons pe_int pa_nil))) pa_nil)) (pa_cons pe_int (pa_cons pe_int (pa_cons pe_bl pa_nil))))) pa_nil))))
    (pss_cons (ps_set (i := 2) sc__law_passed_right.nd rfl (by first | exact Or.inl rfl | exact Or.inr rfl) (pe_op op_ADD (pv 2) (pe_lst (pa_cons (pe_tup (pa_cons (px_mkc m_Side (hr.mono (by decide)) (by rfl) passD (pa_cons (pe_lst (pa_cons pe_int (pa_cons pe_int pa_nil))) pa_nil)) (pa_cons pe_int (pa_cons pe_int (pa_cons pe_bl pa_nil))))) (pa_cons (pe_tup (pa_cons (px_mkc m_Side (hr.mono (by decide)) (by rfl) passD (pa_cons (pe_lst (pa_cons pe_int (pa_cons pe_int pa_nil))) pa_nil)) (pa_cons pe_int (pa_cons pe_int (pa_cons pe_bl pa_nil))))) pa_nil)))))
    (pss_cons (ps_set (i := 2) sc__law_passed_right.nd rfl (by first | exact Or.inl rfl | exact Or.inr rfl) (pe_op op_ADD (pv 2) (pe_lst (pa_cons (pe_tup (pa_cons (px_mkc m_Side (hr.mono (by decide)) (by rfl) passD (pa_cons (pe_lst (pa_cons pe_int (pa_cons pe_int pa_nil))) pa_nil)) (pa_cons pe_int (pa_cons pe_int (pa_cons pe_bl pa_nil))))) (pa_cons (pe_tup (pa_cons (px_mkc m_Side (hr.mono (by decide)) (by rfl) passD (pa_cons (pe_lst (pa_cons pe_int (pa_cons pe_int (pa_cons pe_int (pa_cons pe_int pa_nil))))) pa_nil)) (pa_cons pe_int (pa_cons pe_int (pa_cons pe_bl pa_nil))))) (pa_cons (pe_tup (pa_cons (px_mkc m_Side (hr.mono (by decide)) (by rfl) passD (pa_cons (pe_lst pa_nil) pa_nil)) (pa_cons pe_int (pa_cons pe_int (pa_cons pe_bl pa_nil))))) pa_nil))))))
    (pss_cons (ps_set (i := 2) sc__law_passed_right.nd rfl (by first | exact Or.inl rfl | exact Or.inr rfl) (pe_op op_ADD (pv 2) (pe_lst (pa_cons (pe_tup (pa_cons (px_mkc m_Side (hr.mono (by decide)) (by rfl) passD (pa_cons (pe_lst (pa_cons pe_int (pa_cons pe_int (pa_cons pe_int pa_nil)))) pa_nil)) (pa_cons pe_int (pa_cons pe_int (pa_cons pe_bl pa_nil))))) (pa_cons (pe_tup (pa_cons (px_mkc m_Side (hr.mono (by decide)) (by rfl) passD (pa_cons (pe_lst (pa_cons pe_int (pa_cons pe_int pa_nil))) pa_nil)) (pa_cons pe_int (pa_cons pe_int (pa_cons pe_bl pa_nil))))) pa_nil)))))
    (pss_cons (ps_if (pt_truth (pe_callB (cr_any rfl) (by rfl) T.b.any (by decide +kernel) (pa_cons (pe_lc (own := [("_law_told", 6), ("_law_one", 7), ("_law_other", 8), ("_law_due", 9)]) (by rfl) sc__law_passed_right.nd (pi_list (pv 2)) (blkOk_by (own := [("_law_told", 6), ("_law_one", 7), ("_law_other", 8), ("_law_due", 9)]) (N := ["_law_tasks", "_law_sharing", "_law_cases", "_law_found", "_law_late", "_law_at", "_law_told", "_law_one", "_law_other", "_law_due"]) (sc := defScope s__law_passed_right) (by decide +kernel)) (fun _ _ _ _ _ => (pg_tup rfl (pgs_cons (pg_name (i := 6) sc__law_passed_right.nd rfl (by first | exact Or.inl rfl | exact Or.inr rfl)) (pgs_cons (pg_name (i := 7) sc__law_passed_right.nd rfl (by first | exact Or.inl rfl | exact Or.inr rfl)) (pgs_cons (pg_name (i := 8) sc__law_passed_right.nd rfl (by first | exact Or.inl rfl | exact Or.inr rfl)) (pgs_cons (pg_name (i := 9) sc__law_passed_right.nd rfl (by first | exact Or.inl rfl | exact Or.inr rfl)) pgs_nil)))))) (fun _ _ _ _ _ => pts_nil) (fun _ _ _ _ _ => (pe_cmpR (op_neD hr.units) (PE.or2 (px_mcal c_Chain_shows (hr.mono (by decide)) passN0 (pv 6) (pa_cons pe_int (pa_cons (pv 0) (pa_cons (pv 1) (pa_cons (pv 7) (pa_cons (pv 8) pa_nil)))))) (px_mcal c_Side_shows (hr.mono (by decide)) passN0 (pv 6) (pa_cons pe_int (pa_cons (pv 0) (pa_cons (pv 1) (pa_cons (pv 7) (pa_cons (pv 8) pa_nil))))))) (pv 9) (nomark _)))) pa_nil)) (fun _ => rfl)) (pss_one (ps_ret pe_bl)) pss_nil)
    (pss_cons (ps_if (pt_not (pt_truth (PE.or2 (px_mcal c_Chain_shows (hr.mono (by decide)) passD (px_mkc m_Side (hr.mono (by decide)) (by rfl) passD (pa_cons (pe_lst (pa_cons pe_int pa_nil)) pa_nil)) (pa_cons pe_int (pa_cons (pe_lst (pa_cons (pe_tup (pa_cons pe_int (pa_cons pe_int pa_nil))) pa_nil)) (pa_cons (pe_lst (pa_cons pe_int pa_nil)) (pa_cons pe_int (pa_cons pe_int pa_nil)))))) (px_mcal c_Side_shows (hr.mono (by decide)) passD (px_mkc m_Side (hr.mono (by decide)) (by rfl) passD (pa_cons (pe_lst (pa_cons pe_int pa_nil)) pa_nil)) (pa_cons pe_int (pa_cons (pe_lst (pa_cons (pe_tup (pa_cons pe_int (pa_cons pe_int pa_nil))) pa_nil)) (pa_cons (pe_lst (pa_cons pe_int pa_nil)) (pa_cons pe_int (pa_cons pe_int pa_nil))))))) (fun _ => rfl))) (pss_one (ps_ret pe_bl)) pss_nil)
    (pss_cons (ps_set (i := 3) sc__law_passed_right.nd rfl (by first | exact Or.inl rfl | exact Or.inr rfl) (px_cal c_passed (hr.mono (by decide)) (by rfl) passD (pa_cons pe_int (pa_cons (pv 0) (pa_cons (pv 1) (pa_cons pe_int (pa_cons pe_int pa_nil)))))))
    (pss_cons (ps_if (pw_or (pt_not (pt_truth (pe_callB call_isi (by rfl) T.b.isinstance (by decide +kernel) (pa_cons (pv 3) (pa_cons (pe_glob (v := .ref (g.γ "Chain")) (by rfl) T.g_Chain rfl) pa_nil))) (fun _ => rfl))) (pw_or1 (pt_cmpR (op_neD hr.units) (pe_fld (pv 3) rfl) (pe_lst (pa_cons pe_int (pa_cons pe_int (pa_cons pe_int pa_nil)))) (nomark _)))).pt (pss_one (ps_ret pe_bl)) pss_nil)
    (pss_cons (ps_if (pt_not (pt_truth (pe_callB call_isi (by rfl) T.b.isinstance (by decide +kernel) (pa_cons (px_cal c_passed (hr.mono (by decide)) (by rfl) passD (pa_cons pe_int (pa_cons (pv 0) (pa_cons (pv 1) (pa_cons pe_int (pa_cons pe_int pa_nil)))))) (pa_cons (pe_glob (v := .ref (g.γ "Side")) (by rfl) T.g_Side rfl) pa_nil))) (fun _ => rfl))) (pss_one (ps_ret pe_bl)) pss_nil)
    (pss_cons (ps_if (pt_cmpR (op_neD hr.units) (pe_fld (px_cal c_passed (hr.mono (by decide)) (by rfl) passD (pa_cons pe_int (pa_cons (pv 0) (pa_cons (pv 1) (pa_cons pe_int (pa_cons pe_int pa_nil)))))) rfl) (pe_lst (pa_cons pe_int (pa_cons pe_int pa_nil))) (nomark _)) (pss_one (ps_ret pe_bl)) pss_nil)
    (pss_cons (ps_set (i := 4) sc__law_passed_right.nd rfl (by first | exact Or.inl rfl | exact Or.inr rfl) (pe_callTy call_LIST (by rfl) T.b.list (by decide +kernel) (pa_cons (pv 1) pa_nil)))
    (pss_cons (ps_for ownD (by rfl) (pi_list (pe_fld (pv 3) rfl)) (pg_name (i := 5) sc__law_passed_right.nd rfl (by first | exact Or.inl rfl | exact Or.inr rfl)) (pss_one (ps_asg (pe_op op_sub (pe_op op_ADD (pe_ix ix_seq (pe_ix ix_seq (pv 0) (pv 5) (fun _ _ => rfl)) pe_int (fun _ _ => rfl)) (pe_ix ix_seq (pe_ix ix_seq (pv 0) (pv 5) (fun _ _ => rfl)) pe_int (fun _ _ => rfl))) (pe_ix ix_seq (pv 4) (pv 5) (fun _ _ => rfl))) (pg_sub (pv 4) (pv 5) set_list))))
    (pss_cons (ps_if (pw_or (pt_cmpR (op_neD hr.units) (px_cal c_loads (hr.mono (by decide)) (by rfl) passD (pa_cons pe_int (pa_cons (pv 0) (pa_cons (pv 4) pa_nil)))) (pe_lst (pa_cons pe_int (pa_cons pe_int (pa_cons pe_int (pa_cons pe_int pa_nil))))) (nomark _)) (pw_or1 (pt_cmpR (op_neD hr.units) (px_cal c_loads (hr.mono (by decide)) (by rfl) passD (pa_cons pe_int (pa_cons (pv 0) (pa_cons (pv 1) pa_nil)))) (pe_lst (pa_cons pe_int (pa_cons pe_int (pa_cons pe_int (pa_cons pe_int pa_nil))))) (nomark _)))).pt (pss_one (ps_ret pe_bl)) pss_nil)
    (pss_one (ps_ret pe_bl)))))))))))))))))))))), bodyX h rfl ((ss_seq (ss_asg (sd_lst 4 (len_cons (len_cons (len_cons (len_cons len_nil)))) (by decide) (sd_cons (sd_tup 2 (len_cons (len_cons len_nil)) (by decide) (sd_cons sd_int (sd_cons sd_int sd_nil))) (sd_cons (sd_tup 2 (len_cons (len_cons len_nil)) (by decide) (sd_cons sd_int (sd_cons sd_int sd_nil))) (sd_cons (sd_tup 2 (len_cons (len_cons len_nil)) (by decide) (sd_cons sd_int (sd_cons sd_int sd_nil))) (sd_cons (sd_tup 2 (len_cons (len_cons len_nil)) (by decide) (sd_cons sd_int (sd_cons sd_int sd_nil))) sd_nil))))) sg_name)
    (ss_seq (ss_asg (sd_lst 4 (len_cons (len_cons (len_cons (len_cons len_nil)))) (by decide) (sd_cons sd_int (sd_cons sd_int (sd_cons sd_int (sd_cons sd_int sd_nil))))) sg_name)
    (ss_seq (ss_asg (sd_lst 2 (len_cons (len_cons len_nil)) (by decide) (sd_cons (sd_tup 4 (len_cons (len_cons (len_cons (len_cons len_nil)))) (by decide) (sd_cons (sx_make rfl (sd_cons (sd_lst 3 (len_cons (len_cons (len_cons len_nil))) (by decide) (sd_cons sd_int (sd_cons sd_int (sd_cons sd_int sd_nil)))) sd_nil)) (sd_cons sd_int (sd_cons sd_int (sd_cons sd_bl sd_nil))))) (sd_cons (sd_tup 4 (len_cons (len_cons (len_cons (len_cons len_nil)))) (by decide) (sd_cons (sx_make rfl (sd_cons (sd_lst 2 (len_cons (len_cons len_nil)) (by decide) (sd_cons sd_int (sd_cons sd_int sd_nil))) sd_nil)) (sd_cons sd_int (sd_cons sd_int (sd_cons sd_bl sd_nil))))) sd_nil))) sg_name)
    (ss_seq (ss_asg (sd_op sr_add sd_var (sd_lst 3 (len_cons (len_cons (len_cons len_nil))) (by decide) (sd_cons (sd_tup 4 (len_cons (len_cons (len_cons (len_cons len_nil)))) (by decide) (sd_cons (sx_make rfl (sd_cons (sd_lst 1 (len_cons len_nil) (by decide) (sd_cons sd_int sd_nil)) sd_nil)) (sd_cons sd_int (sd_cons sd_int (sd_cons sd_bl sd_nil))))) (sd_cons (sd_tup 4 (len_cons (len_cons (len_cons (len_cons len_nil)))) (by decide) (sd_cons (sx_make rfl (sd_cons (sd_lst 0 len_nil (by decide) sd_nil) sd_nil)) (sd_cons sd_int (sd_cons sd_int (sd_cons sd_bl sd_nil))))) (sd_cons (sd_tup 4 (len_cons (len_cons (len_cons (len_cons len_nil)))) (by decide) (sd_cons (sx_make rfl (sd_cons (sd_lst 2 (len_cons (len_cons len_nil)) (by decide) (sd_cons sd_int (sd_cons sd_int sd_nil))) sd_nil)) (sd_cons sd_int (sd_cons sd_int (sd_cons sd_bl sd_nil))))) sd_nil))))) sg_name)
    (ss_seq (ss_asg (sd_op sr_add sd_var (sd_lst 1 (len_cons len_nil) (by decide) (sd_cons (sd_tup 4 (len_cons (len_cons (len_cons (len_cons len_nil)))) (by decide) (sd_cons (sx_make rfl (sd_cons (sd_lst 6 (len_cons (len_cons (len_cons (len_cons (len_cons (len_cons len_nil)))))) (by decide) (sd_cons sd_int (sd_cons sd_int (sd_cons sd_int (sd_cons sd_int (sd_cons sd_int (sd_cons sd_int sd_nil))))))) sd_nil)) (sd_cons sd_int (sd_cons sd_int (sd_cons sd_bl sd_nil))))) sd_nil))) sg_name)
    (ss_seq (ss_asg (sd_op sr_add sd_var (sd_lst 2 (len_cons (len_cons len_nil)) (by decide) (sd_cons (sd_tup 4 (len_cons (len_cons (len_cons (len_cons len_nil)))) (by decide) (sd_cons (sx_make rfl (sd_cons (sd_lst 3 (len_cons (len_cons (len_cons len_nil))) (by decide) (sd_cons sd_int (sd_cons sd_int (sd_cons sd_int sd_nil)))) sd_nil)) (sd_cons sd_int (sd_cons sd_int (sd_cons sd_bl sd_nil))))) (sd_cons (sd_tup 4 (len_cons (len_cons (len_cons (len_cons len_nil)))) (by decide) (sd_cons (sx_make rfl (sd_cons (sd_lst 2 (len_cons (len_cons len_nil)) (by decide) (sd_cons sd_int (sd_cons sd_int sd_nil))) sd_nil)) (sd_cons sd_int (sd_cons sd_int (sd_cons sd_bl sd_nil))))) sd_nil)))) sg_name)
    (ss_seq (ss_asg (sd_op sr_add sd_var (sd_lst 3 (len_cons (len_cons (len_cons len_nil))) (by decide) (sd_cons (sd_tup 4 (len_cons (len_cons (len_cons (len_cons len_nil)))) (by decide) (sd_cons (sx_make rfl (sd_cons (sd_lst 1 (len_cons len_nil) (by decide) (sd_cons (sd_negB sd_int) sd_nil)) sd_nil)) (sd_cons sd_int (sd_cons sd_int (sd_cons sd_bl sd_nil))))) (sd_cons (sd_tup 4 (len_cons (len_cons (len_cons (len_cons len_nil)))) (by decide) (sd_cons (sx_make rfl (sd_cons (sd_lst 2 (len_cons (len_cons len_nil)) (by decide) (sd_cons sd_int (sd_cons sd_int sd_nil))) sd_nil)) (sd_cons sd_int (sd_cons sd_int (sd_cons sd_bl sd_nil))))) (sd_cons (sd_tup 4 (len_cons (len_cons (len_cons (len_cons len_nil)))) (by decide) (sd_cons (sx_make rfl (sd_cons (sd_lst 1 (len_cons len_nil) (by decide) (sd_cons sd_int sd_nil)) sd_nil)) (sd_cons sd_int (sd_cons sd_int (sd_cons sd_bl sd_nil))))) sd_nil))))) sg_name)
    (ss_seq (ss_asg (sd_op sr_add sd_var (sd_lst 1 (len_cons len_nil) (by decide) (sd_cons (sd_tup 4 (len_cons (len_cons (len_cons (len_cons len_nil)))) (by decide) (sd_cons (sx_make rfl (sd_cons (sd_lst 2 (len_cons (len_cons len_nil)) (by decide) (sd_cons sd_int (sd_cons sd_int sd_nil))) sd_nil)) (sd_cons sd_int (sd_cons sd_int (sd_cons sd_bl sd_nil))))) sd_nil))) sg_name)
    (ss_seq (ss_asg (sd_op sr_add sd_var (sd_lst 2 (len_cons (len_cons len_nil)) (by decide) (sd_cons (sd_tup 4 (len_cons (len_cons (len_cons (len_cons len_nil)))) (by decide) (sd_cons (sx_make rfl (sd_cons (sd_lst 2 (len_cons (len_cons len_nil)) (by decide) (sd_cons sd_int (sd_cons sd_int sd_nil))) sd_nil)) (sd_cons sd_int (sd_cons sd_int (sd_cons sd_bl sd_nil))))) (sd_cons (sd_tup 4 (len_cons (len_cons (len_cons (len_cons len_nil)))) (by decide) (sd_cons (sx_make rfl (sd_cons (sd_lst 2 (len_cons (len_cons len_nil)) (by decide) (sd_cons sd_int (sd_cons sd_int sd_nil))) sd_nil)) (sd_cons sd_int (sd_cons sd_int (sd_cons sd_bl sd_nil))))) sd_nil)))) sg_name)
    (ss_seq (ss_asg (sd_op sr_add sd_var (sd_lst 3 (len_cons (len_cons (len_cons len_nil))) (by decide) (sd_cons (sd_tup 4 (len_cons (len_cons (len_cons (len_cons len_nil)))) (by decide) (sd_cons (sx_make rfl (sd_cons (sd_lst 2 (len_cons (len_cons len_nil)) (by decide) (sd_cons sd_int (sd_cons sd_int sd_nil))) sd_nil)) (sd_cons sd_int (sd_cons sd_int (sd_cons sd_bl sd_nil))))) (sd_cons (sd_tup 4 (len_cons (len_cons (len_cons (len_cons len_nil)))) (by decide) (sd_cons (sx_make rfl (sd_cons (sd_lst 4 (len_cons (len_cons (len_cons (len_cons len_nil)))) (by decide) (sd_cons sd_int (sd_cons sd_int (sd_cons sd_int (sd_cons sd_int sd_nil))))) sd_nil)) (sd_cons sd_int (sd_cons sd_int (sd_cons sd_bl sd_nil))))) (sd_cons (sd_tup 4 (len_cons (len_cons (len_cons (len_cons len_nil)))) (by decide) (sd_cons (sx_make rfl (sd_cons (sd_lst 0 len_nil (by decide) sd_nil) sd_nil)) (sd_cons sd_int (sd_cons sd_int (sd_cons sd_bl sd_nil))))) sd_nil))))) sg_name)
    (ss_seq (ss_asg (sd_op sr_add sd_var (sd_lst 2 (len_cons (len_cons len_nil)) (by decide) (sd_cons (sd_tup 4 (len_cons (len_cons (len_cons (len_cons len_nil)))) (by decide) (sd_cons (sx_make rfl (sd_cons (sd_lst 3 (len_cons (len_cons (len_cons len_nil))) (by decide) (sd_cons sd_int (sd_cons sd_int (sd_cons sd_int sd_nil)))) sd_nil)) (sd_cons sd_int (sd_cons sd_int (sd_cons sd_bl sd_nil))))) (sd_cons (sd_tup 4 (len_cons (len_cons (len_cons (len_cons len_nil)))) (by decide) (sd_cons (sx_make rfl (sd_cons (sd_lst 2 (len_cons (len_cons len_nil)) (by decide) (sd_cons sd_int (sd_cons sd_int sd_nil))) sd_nil)) (sd_cons sd_int (sd_cons sd_int (sd_cons sd_bl sd_nil))))) sd_nil)))) sg_name)
    (ss_seq (ss_if (sd_tru (sd_cb sc_any (sd_cons (sd_lc (si_list sd_var) (sg_tup (sgs_cons sg_name (sgs_cons sg_name (sgs_cons sg_name (sgs_cons sg_name sgs_nil))))) (wp_tup (wps_cons (by simp) (wps_cons (by simp) (wps_cons (by simp) (wps_cons (by simp) wps_nil))))) sd_yes (sd_op sr_ne (sd_is (sx_meth0 rfl sd_var (sd_cons sd_int (sd_cons sd_var (sd_cons sd_var (sd_cons sd_var (sd_cons sd_var sd_nil)))))) (sx_meth0 rfl sd_var (sd_cons sd_int (sd_cons sd_var (sd_cons sd_var (sd_cons sd_var (sd_cons sd_var sd_nil))))))) sd_var)) sd_nil))) (ss_ret sd_bl) ss_next)
    (ss_seq (ss_if (sd_not (sd_tru (sd_is (sx_meth rfl (sx_make rfl (sd_cons (sd_lst 1 (len_cons len_nil) (by decide) (sd_cons sd_int sd_nil)) sd_nil)) (sd_cons sd_int (sd_cons (sd_lst 1 (len_cons len_nil) (by decide) (sd_cons (sd_tup 2 (len_cons (len_cons len_nil)) (by decide) (sd_cons sd_int (sd_cons sd_int sd_nil))) sd_nil)) (sd_cons (sd_lst 1 (len_cons len_nil) (by decide) (sd_cons sd_int sd_nil)) (sd_cons sd_int (sd_cons sd_int sd_nil)))))) (sx_meth rfl (sx_make rfl (sd_cons (sd_lst 1 (len_cons len_nil) (by decide) (sd_cons sd_int sd_nil)) sd_nil)) (sd_cons sd_int (sd_cons (sd_lst 1 (len_cons len_nil) (by decide) (sd_cons (sd_tup 2 (len_cons (len_cons len_nil)) (by decide) (sd_cons sd_int (sd_cons sd_int sd_nil))) sd_nil)) (sd_cons (sd_lst 1 (len_cons len_nil) (by decide) (sd_cons sd_int sd_nil)) (sd_cons sd_int (sd_cons sd_int sd_nil))))))))) (ss_ret sd_bl) ss_next)
    (ss_seq (ss_asg (sx_call (sd_cons sd_int (sd_cons sd_var (sd_cons sd_var (sd_cons sd_int (sd_cons sd_int sd_nil)))))) sg_name)
    (ss_seq (ss_if (sd_or (sd_not (sd_tru (sd_cb (sc_isiC T.cl) (sd_cons sd_var (sd_cons (sd_gl rfl) sd_nil))))) (sd_test (sd_op sr_ne (sd_fld T.cl T.na_tasks sd_var) (sd_lst 3 (len_cons (len_cons (len_cons len_nil))) (by decide) (sd_cons sd_int (sd_cons sd_int (sd_cons sd_int sd_nil))))))) (ss_ret sd_bl) ss_next)
    (ss_seq (ss_if (sd_not (sd_tru (sd_cb (sc_isiC T.cl) (sd_cons (sx_call (sd_cons sd_int (sd_cons sd_var (sd_cons sd_var (sd_cons sd_int (sd_cons sd_int sd_nil)))))) (sd_cons (sd_gl rfl) sd_nil))))) (ss_ret sd_bl) ss_next)
    (ss_seq (ss_if (sd_test (sd_op sr_ne (sd_fld T.cl T.na_tasks (sx_call (sd_cons sd_int (sd_cons sd_var (sd_cons sd_var (sd_cons sd_int (sd_cons sd_int sd_nil))))))) (sd_lst 2 (len_cons (len_cons len_nil)) (by decide) (sd_cons sd_int (sd_cons sd_int sd_nil))))) (ss_ret sd_bl) ss_next)
    (ss_seq (ss_asg (sd_cb sc_list (sd_cons sd_var sd_nil)) sg_name)
    (ss_seq (ss_for (si_list (sd_fld T.cl T.na_tasks sd_var)) sg_name (ss_asg (sd_op sr_sub (sd_op sr_add (sd_op sr_ix (sd_op sr_ix sd_var sd_var) sd_int) (sd_op sr_ix (sd_op sr_ix sd_var sd_var) sd_int)) (sd_op sr_ix sd_var sd_var)) (sg_sub sd_var sd_var)))
    (ss_seq (ss_if (sd_or (sd_test (sd_op sr_ne (sx_call (sd_cons sd_int (sd_cons sd_var (sd_cons sd_var sd_nil)))) (sd_lst 4 (len_cons (len_cons (len_cons (len_cons len_nil)))) (by decide) (sd_cons sd_int (sd_cons sd_int (sd_cons sd_int (sd_cons sd_int sd_nil))))))) (sd_test (sd_op sr_ne (sx_call (sd_cons sd_int (sd_cons sd_var (sd_cons sd_var sd_nil)))) (sd_lst 4 (len_cons (len_cons (len_cons (len_cons len_nil)))) (by decide) (sd_cons sd_int (sd_cons sd_int (sd_cons sd_int (sd_cons sd_int sd_nil)))))))) (ss_ret sd_bl) ss_next)
    (ss_ret sd_bl))))))))))))))))))))))⟩))

abbrev s__law_rings_right : Stmt := top 43
theorem sc__law_rings_right : FnScope ["_law_two", "_law_one", "_law_other", "_law_told", "_law_ring", "_law_at", "_law_later"] [] (defScope s__law_rings_right) := ⟨rfl, rfl, rfl, by decide +kernel, rfl, by decide +kernel, by decide +kernel⟩
theorem ok__law_rings_right {f : Addr} {fd : FuncData} (F : Fun g.K "_law_rings_right" "_law_rings_right" s__law_rings_right f fd) (T : Tx g mg) (c_rings : Cal P w g.K mg base (CXN P w) 4 "rings" ["people", "tasks", "sharing", "another"] (iSpX g i_rings)) : FnOk P w g.K mg base (CXN P w) 5 f fd [] (iSpX g i__law_rings_right) :=
  gc_ok (okN F sc__law_rings_right (iSpX_len rfl) (fun cdv AA outer s H vs Q E hr h => ⟨_, (pss_cons (ps_set (i := 0) sc__law_rings_right.nd rfl (by first | exact Or.inl rfl | exact Or.inr rfl) (pe_lst (pa_cons (pe_tup (pa_cons pe_int (pa_cons pe_int pa_nil))) (pa_cons (pe_tup (pa_cons pe_int (pa_cons pe_int pa_nil))) (pa_cons (pe_tup (pa_cons pe_int (pa_cons pe_int pa_nil))) (pa_cons (pe_tup (pa_cons pe_int (pa_cons pe_int pa_nil))) (pa_cons (pe_tup (pa_cons pe_int (pa_cons pe_int pa_nil))) pa_nil)))))))
    (pss_cons (ps_asg (pe_tup (pa_cons (pe_lst (pa_cons pe_int (pa_cons pe_int (pa_cons pe_int (pa_cons pe_int (pa_cons pe_int pa_nil)))))) (pa_cons (pe_lst (pa_cons pe_int (pa_cons pe_int (pa_cons pe_int (pa_cons pe_int (pa_cons pe_int pa_nil)))))) pa_nil))) (pg_tup rfl (pgs_cons (pg_name (i := 1) sc__law_rings_right.nd rfl (by first | exact Or.inl rfl | exact Or.inr rfl)) (pgs_cons (pg_name (i := 2) sc__law_rings_right.nd rfl (by first | exact Or.inl rfl | exact Or.inr rfl)) pgs_nil))))
    (pss_cons (ps_set (i := 3) sc__law_rings_right.nd rfl (by first | exact Or.inl rfl | exact Or.inr rfl) (px_cal c_rings (hr.mono (by decide)) (by rfl) passD (pa_cons pe_int (pa_cons (pv 0) (pa_cons (pv 1) (pa_cons (pv 2) pa_nil))))))
    (pss_cons (ps_if (pt_cmpR (op_neD hr.units) (px_cal c_rings (hr.mono (by decide)) (by rfl) passD (pa_cons pe_int (pa_cons (pv 0) (pa_cons (pv 1) (pa_cons (pv 1) pa_nil))))) (pe_lst pa_nil) (nomark _)) (pss_one (ps_ret pe_bl)) pss_nil)
    (pss_cons (ps_if (pt_cmpR (op_neD hr.units) (pe_callB cr_sortedI (by rfl) T.b.sorted (by decide +kernel) (pa_cons (pe_lc (own := [("_law_ring", 4)]) (by rfl) sc__law_rings_right.nd (pi_list (pv 3)) (blkOk_by (own := [("_law_ring", 4)]) (N := ["_law_two", "_law_one", "_law_other", "_law_told", "_law_ring", "_law_at", "_law_later"]) (sc := defScope s__law_rings_right) (by decide +kernel)) (fun _ _ _ _ _ => (pg_name (i := 4) sc__law_rings_right.nd rfl (by first | exact Or.inl rfl | exact Or.inr rfl))) (fun _ _ _ _ _ => pts_nil) (fun _ _ _ _ _ => (pe_callB call_LEN (by rfl) T.b.len (by decide +kernel) (pa_cons (pv 4) pa_nil)))) pa_nil)) (pe_lst (pa_cons pe_int (pa_cons pe_int pa_nil))) (nomark _)) (pss_one (ps_ret pe_bl)) pss_nil)
    (pss_cons (ps_for ownD (by rfl) (pi_list (pv 3)) (pg_name (i := 4) sc__law_rings_right.nd rfl (by first | exact Or.inl rfl | exact Or.inr rfl)) (pss_cons (ps_for ownD (by rfl) (pi_zip (by rfl) T.b.zip (pa_cons (pv 4) (pa_cons (pe_op op_ADD (pe_slice sl_list (pv 4) (po_some pe_int) po_none) (pe_slice sl_list (pv 4) po_none (po_some pe_int))) pa_nil))) (pg_tup rfl (pgs_cons (pg_name (i := 5) sc__law_rings_right.nd rfl (by first | exact Or.inl rfl | exact Or.inr rfl)) (pgs_cons (pg_name (i := 6) sc__law_rings_right.nd rfl (by first | exact Or.inl rfl | exact Or.inr rfl)) pgs_nil))) (pss_one (ps_if (pw_or (pt_cmpR (op_neD hr.units) (pe_op op_sub (pe_op op_ADD (pe_ix ix_seq (pe_ix ix_seq (pv 0) (pv 5) (fun _ _ => rfl)) pe_int (fun _ _ => rfl)) (pe_ix ix_seq (pe_ix ix_seq (pv 0) (pv 5) (fun _ _ => rfl)) pe_int (fun _ _ => rfl))) (pe_ix ix_seq (pv 1) (pv 5) (fun _ _ => rfl))) (pe_ix ix_seq (pv 1) (pv 6) (fun _ _ => rfl)) (nomark _)) (pw_or1 (pt_cmpR (op_eqD hr.units) (pe_ix ix_seq (pv 1) (pv 5) (fun _ _ => rfl)) (pe_ix ix_seq (pv 2) (pv 5) (fun _ _ => rfl)) (nomark _)))).pt (pss_one (ps_ret pe_bl)) pss_nil)))
    (pss_one (ps_if (pt_cmpR op_lt (pe_callB call_LENSET (by rfl) T.b.len (by decide +kernel) (pa_cons (pe_callTy (call_SET rfl) (by rfl) T.b.set (by decide +kernel) (pa_cons (pe_lc (own := [("_law_at", 5)]) (by rfl) sc__law_rings_right.nd (pi_list (pv 4)) (blkOk_by (own := [("_law_at", 5)]) (N := ["_law_two", "_law_one", "_law_other", "_law_told", "_law_ring", "_law_at", "_law_later"]) (sc := defScope s__law_rings_right) (by decide +kernel)) (fun _ _ _ _ _ => (pg_name (i := 5) sc__law_rings_right.nd rfl (by first | exact Or.inl rfl | exact Or.inr rfl))) (fun _ _ _ _ _ => pts_nil) (fun _ _ _ _ _ => (pe_ix ix_seq (pv 1) (pv 5) (fun _ _ => rfl)))) pa_nil)) pa_nil)) (pe_callB call_LEN (by rfl) T.b.len (by decide +kernel) (pa_cons (pv 4) pa_nil)) (nomark _)) (pss_one (ps_ret pe_bl)) pss_nil))))
    (pss_one (ps_ret pe_bl)))))))), bodyX h rfl ((ss_seq (ss_asg (sd_lst 5 (len_cons (len_cons (len_cons (len_cons (len_cons len_nil))))) (by decide) (sd_cons (sd_tup 2 (len_cons (len_cons len_nil)) (by decide) (sd_cons sd_int (sd_cons sd_int sd_nil))) (sd_cons (sd_tup 2 (len_cons (len_cons len_nil)) (by decide) (sd_cons sd_int (sd_cons sd_int sd_nil))) (sd_cons (sd_tup 2 (len_cons (len_cons len_nil)) (by decide) (sd_cons sd_int (sd_cons sd_int sd_nil))) (sd_cons (sd_tup 2 (len_cons (len_cons len_nil)) (by decide) (sd_cons sd_int (sd_cons sd_int sd_nil))) (sd_cons (sd_tup 2 (len_cons (len_cons len_nil)) (by decide) (sd_cons sd_int (sd_cons sd_int sd_nil))) sd_nil)))))) sg_name)
    (ss_seq (ss_asg (sd_tup 2 (len_cons (len_cons len_nil)) (by decide) (sd_cons (sd_lst 5 (len_cons (len_cons (len_cons (len_cons (len_cons len_nil))))) (by decide) (sd_cons sd_int (sd_cons sd_int (sd_cons sd_int (sd_cons sd_int (sd_cons sd_int sd_nil)))))) (sd_cons (sd_lst 5 (len_cons (len_cons (len_cons (len_cons (len_cons len_nil))))) (by decide) (sd_cons sd_int (sd_cons sd_int (sd_cons sd_int (sd_cons sd_int (sd_cons sd_int sd_nil)))))) sd_nil))) (sgx_tup (sgs_cons sg_name (sgs_cons sg_name sgs_nil))))
    (ss_seq (ss_asg (sx_call (sd_cons sd_int (sd_cons sd_var (sd_cons sd_var (sd_cons sd_var sd_nil))))) sg_name)
    (ss_seq (ss_if (sd_test (sd_op sr_ne (sx_call (sd_cons sd_int (sd_cons sd_var (sd_cons sd_var (sd_cons sd_var sd_nil))))) (sd_lst 0 len_nil (by decide) sd_nil))) (ss_ret sd_bl) ss_next)
    (ss_seq (ss_if (sd_test (sd_op sr_ne (sd_cb sc_sorted (sd_cons (sd_lc (si_list sd_var) sg_name (wp_name (by simp)) sd_yes (sd_cb sc_len (sd_cons sd_var sd_nil))) sd_nil)) (sd_lst 2 (len_cons (len_cons len_nil)) (by decide) (sd_cons sd_int (sd_cons sd_int sd_nil))))) (ss_ret sd_bl) ss_next)
    (ss_seq (ss_for (si_list sd_var) sg_name (ss_seq (ss_for (si_zip sd_var (sd_op sr_add (sd_sl sd_var (so_some sd_int) so_none) (sd_sl sd_var so_none (so_some sd_int)))) (sgx_tup (sgs_cons sg_name (sgs_cons sg_name sgs_nil))) (ss_if (sd_or (sd_test (sd_op sr_ne (sd_op sr_sub (sd_op sr_add (sd_op sr_ix (sd_op sr_ix sd_var sd_var) sd_int) (sd_op sr_ix (sd_op sr_ix sd_var sd_var) sd_int)) (sd_op sr_ix sd_var sd_var)) (sd_op sr_ix sd_var sd_var))) (sd_test (sd_op sr_eq (sd_op sr_ix sd_var sd_var) (sd_op sr_ix sd_var sd_var)))) (ss_ret sd_bl) ss_next))
    (ss_if (sd_test (sd_op sr_ltB (sd_lenSet (sd_cons (sd_lc (si_list sd_var) sg_name (wp_name (by simp)) sd_yes (sd_op sr_ix sd_var sd_var)) sd_nil)) (sd_cb sc_len (sd_cons sd_var sd_nil)))) (ss_ret sd_bl) ss_next)))
    (ss_ret sd_bl))))))))⟩))

abbrev s__law_refused_right : Stmt := top 44
theorem sc__law_refused_right : FnScope ["_law_far", "_law_tasks", "_law_asks", "_law_words", "_law_bad", "_law_ask"] ["_law_far"] (defScope s__law_refused_right) := ⟨rfl, rfl, rfl, by decide +kernel, rfl, by decide +kernel, by decide +kernel⟩
theorem ok__law_refused_right {f : Addr} {fd : FuncData} (F : Fun g.K "_law_refused_right" "_law_refused_right" s__law_refused_right f fd) (T : Tx (g.b base) mg) (T' : ∀ cells, Tx ((g.b base).o cells) mg) (Tb : ∀ bs, Tx (g.b bs) mg) (hl : g.lam = lamT) {k P0 : Addr} (hk : fd.code = .ref k) (TB : LamX.TabB base mg k P0) (hm : (P0, ("_law_refused_right.<locals>.<lambda>" : Str)) ∈ g.T) (hu : ∀ p ∈ g.T, p.1 = P0 → p.2 = ("_law_refused_right.<locals>.<lambda>" : Str)) (c__law_word : ∀ base, Cal P w g.K mg base (CXN P w) 6 "_law_word" ["_law_ask", "_law_thing"] (iSpX (g.b base) i__law_word)) : FnOk P w g.K mg base (CXN P w) 7 f fd ["_law_far"] (iSpX (g.b base) i__law_refused_right) :=
  okNC F hk sc__law_refused_right (iSpW_len rfl) (fun AA outer s H vs Q E hr h => by
  have hcap : ∀ i js, caps__law_refused_right.lookup i = some js → Stat (cxOf (CXN P w) P w g.K mg base ["_law_far", "_law_tasks", "_law_asks", "_law_words", "_law_bad", "_law_ask"] "_law_refused_right" (defScope s__law_refused_right) f (.ref k) AA outer s H E) (g.lam i).scope (g.lam i).fr js := by rw [hl]; exact caps_by (by show (caps__law_refused_right.all fun p => statB (defScope s__law_refused_right).names ["_law_far", "_law_tasks", "_law_asks", "_law_words", "_law_bad", "_law_ask"] (lamT p.1).scope (lamT p.1).fr p.2) = true; decide +kernel)
  exact ⟨_, (pss_cons (ps_set (i := 1) sc__law_refused_right.nd rfl (by first | exact Or.inl rfl | exact Or.inr rfl) (pe_lst (pa_cons (pe_tup (pa_cons pe_int (pa_cons pe_int pa_nil))) pa_nil)))
    (pss_cons (ps_set (i := 2) sc__law_refused_right.nd rfl (by first | exact Or.inl rfl | exact Or.inr rfl) (pe_lst (pa_cons (px_lam (i := lamT 0) TB rfl rfl hm hu (free_by (nm := (defScope s__law_refused_right).names) (by decide +kernel))) (pa_cons (px_lam (i := lamT 1) TB rfl rfl hm hu (free_by (nm := (defScope s__law_refused_right).names) (by decide +kernel))) pa_nil))))
    (pss_cons (ps_set (i := 2) sc__law_refused_right.nd rfl (by first | exact Or.inl rfl | exact Or.inr rfl) (pe_op op_ADD (pv 2) (pe_lst (pa_cons (px_lam (i := lamT 2) TB rfl rfl hm hu (free_by (nm := (defScope s__law_refused_right).names) (by decide +kernel))) pa_nil))))
    (pss_cons (ps_set (i := 2) sc__law_refused_right.nd rfl (by first | exact Or.inl rfl | exact Or.inr rfl) (pe_op op_ADD (pv 2) (pe_lst (pa_cons (px_lam (i := lamT 3) TB rfl rfl hm hu (free_by (nm := (defScope s__law_refused_right).names) (by decide +kernel))) (pa_cons (px_lam (i := lamT 4) TB rfl rfl hm hu (free_by (nm := (defScope s__law_refused_right).names) (by decide +kernel))) pa_nil)))))
    (pss_cons (ps_set (i := 2) sc__law_refused_right.nd rfl (by first | exact Or.inl rfl | exact Or.inr rfl) (pe_op op_ADD (pv 2) (pe_lst (pa_cons (px_lam (i := lamT 5) TB rfl rfl hm hu (free_by (nm := (defScope s__law_refused_right).names) (by decide +kernel))) (pa_cons (px_lam (i := lamT 6) TB rfl rfl hm hu (free_by (nm := (defScope s__law_refused_right).names) (by decide +kernel))) pa_nil)))))
    (pss_cons (ps_set (i := 2) sc__law_refused_right.nd rfl (by first | exact Or.inl rfl | exact Or.inr rfl) (pe_op op_ADD (pv 2) (pe_lst (pa_cons (px_lam (i := lamT 7) TB rfl rfl hm hu (free_by (nm := (defScope s__law_refused_right).names) (by decide +kernel))) (pa_cons (px_lam (i := lamT 8) TB rfl rfl hm hu (free_by (nm := (defScope s__law_refused_right).names) (by decide +kernel))) pa_nil)))))
    (pss_cons (ps_set (i := 3) sc__law_refused_right.nd rfl (by first | exact Or.inl rfl | exact Or.inr rfl) (pe_lst (pa_cons pe_str (pa_cons pe_str (pa_cons pe_str (pa_cons pe_str (pa_cons pe_str (pa_cons pe_str (pa_cons pe_str (pa_cons pe_str (pa_cons pe_str pa_nil)))))))))))
    (pss_cons (ps_if (pt_cmpR (op_neD hr.units) (px_lcW (own := [("_law_ask", 5)]) (by rfl) (fun _ => rfl) sc__law_refused_right.nd (pi_list (pv 2)) (blkOk_by (own := [("_law_ask", 5)]) (N := ["_law_far", "_law_tasks", "_law_asks", "_law_words", "_law_bad", "_law_ask"]) (sc := defScope s__law_refused_right) (by decide +kernel)) (fun _ _ _ _ _ bs => (pg_name (i := 5) sc__law_refused_right.nd rfl (by first | exact Or.inl rfl | exact Or.inr rfl))) (fun _ _ _ _ _ bs => pts_nil) (fun _ _ _ _ _ bs up => (px_cal (c__law_word bs) (hr.mono (by decide)) (by rfl) passN0 (pa_cons (pv 5) (pa_cons pe_non pa_nil))))) (pv 3) (nomark _)) (pss_one (ps_ret pe_bl)) pss_nil)
    (pss_cons (ps_if (pt_cmpR (op_neD hr.units) (px_calW c__law_word (fun _ => rfl) (hr.mono (by decide)) (by rfl) passD (pa_cons (px_lam (i := lamT 9) TB rfl rfl hm hu (free_by (nm := (defScope s__law_refused_right).names) (by decide +kernel))) (pa_cons pe_int pa_nil))) pe_str (nomark _)) (pss_one (ps_ret pe_bl)) pss_nil)
    (pss_cons (ps_if (pt_cmpR (op_neD hr.units) (px_calW c__law_word (fun _ => rfl) (hr.mono (by decide)) (by rfl) passD (pa_cons (px_lam (i := lamT 10) TB rfl rfl hm hu (free_by (nm := (defScope s__law_refused_right).names) (by decide +kernel))) (pa_cons pe_int pa_nil))) pe_str (nomark _)) (pss_one (ps_ret pe_bl)) pss_nil)
    (pss_cons (ps_for ownD (by rfl) (pi_tup (pe_tup (pa_cons (pe_lst (pa_cons (pe_tup (pa_cons pe_int (pa_cons pe_int pa_nil))) pa_nil)) (pa_cons (pe_lst (pa_cons (pe_tup (pa_cons pe_int (pa_cons pe_int pa_nil))) pa_nil)) (pa_cons (pe_lst (pa_cons (pe_lst (pa_cons pe_int (pa_cons pe_int pa_nil))) pa_nil)) (pa_cons (pe_lst (pa_cons (pe_tup (pa_cons pe_int (pa_cons pe_int pa_nil))) pa_nil)) (pa_cons (pe_lst (pa_cons (pe_tup (pa_cons pe_int (pa_cons pe_bl pa_nil))) pa_nil)) (pa_cons (pe_tup (pa_cons (pe_tup (pa_cons pe_int (pa_cons pe_int pa_nil))) pa_nil)) (pa_cons (pe_lst (pa_cons (pe_tup (pa_cons pe_int pa_nil)) pa_nil)) (pa_cons (pe_lst (pa_cons pe_non pa_nil)) pa_nil)))))))))) (pg_name (i := 4) sc__law_refused_right.nd rfl (by first | exact Or.inl rfl | exact Or.inr rfl)) (pss_one (ps_if (pt_cmpR (op_neD hr.units) (px_calW c__law_word (fun _ => rfl) (hr.mono (by decide)) (by rfl) passD (pa_cons (px_lam (i := lamT 11) TB rfl rfl hm hu (free_by (nm := (defScope s__law_refused_right).names) (by decide +kernel))) (pa_cons (pv 4) pa_nil))) pe_str (nomark _)) (pss_one (ps_ret pe_bl)) pss_nil)))
    (pss_cons (ps_for ownD (by rfl) (pi_tup (pe_tup (pa_cons (pe_lst (pa_cons pe_int pa_nil)) (pa_cons (pe_lst (pa_cons pe_int (pa_cons (pe_un un_neg pe_int) pa_nil))) (pa_cons (pe_lst (pa_cons pe_int (pa_cons pe_bl pa_nil))) (pa_cons (pe_tup (pa_cons pe_int (pa_cons pe_int pa_nil))) (pa_cons (pe_lst (pa_cons pe_int (pa_cons pe_int (pa_cons pe_int pa_nil)))) (pa_cons (pe_lst (pa_cons pe_int (pa_cons pe_non pa_nil))) (pa_cons (pe_lst (pa_cons (pe_un un_neg (pv 0)) (pa_cons pe_int pa_nil))) pa_nil))))))))) (pg_name (i := 4) sc__law_refused_right.nd rfl (by first | exact Or.inl rfl | exact Or.inr rfl)) (pss_one (ps_if (pt_cmpR (op_neD hr.units) (px_calW c__law_word (fun _ => rfl) (hr.mono (by decide)) (by rfl) passD (pa_cons (px_lam (i := lamT 12) TB rfl rfl hm hu (free_by (nm := (defScope s__law_refused_right).names) (by decide +kernel))) (pa_cons (pv 4) pa_nil))) pe_str (nomark _)) (pss_one (ps_ret pe_bl)) pss_nil)))
    (pss_one (ps_ret (pe_callB (cr_all rfl) (by rfl) T.b.all (by decide +kernel) (pa_cons (px_lcW (own := [("_law_bad", 4)]) (by rfl) (fun _ => rfl) sc__law_refused_right.nd (pi_tup (pe_tup (pa_cons pe_int (pa_cons (pe_un un_neg pe_int) (pa_cons pe_bl (pa_cons pe_int (pa_cons (pv 0) (pa_cons pe_non (pa_cons pe_str pa_nil))))))))) (blkOk_by (own := [("_law_bad", 4)]) (N := ["_law_far", "_law_tasks", "_law_asks", "_law_words", "_law_bad", "_law_ask"]) (sc := defScope s__law_refused_right) (by decide +kernel)) (fun _ _ _ _ _ bs => (pg_name (i := 4) sc__law_refused_right.nd rfl (by first | exact Or.inl rfl | exact Or.inr rfl))) (fun _ _ _ _ _ bs => pts_nil) (fun _ _ _ _ _ bs up => (pe_cmpR (op_eqD hr.units) (px_cal (c__law_word bs) (hr.mono (by decide)) (by rfl) passN0 (pa_cons (px_lam0 (i := lamT 13) (tabB_up TB up) rfl rfl hm hu (by decide +kernel) (fun _ => rfl)) (pa_cons (pv 4) pa_nil))) pe_str (nomark _)))) pa_nil)))))))))))))))), bodyW (cxOf (CXN P w) P w g.K mg base ["_law_far", "_law_tasks", "_law_asks", "_law_words", "_law_bad", "_law_ask"] "_law_refused_right" (defScope s__law_refused_right) f (.ref k) AA outer s H E).env.cells h rfl ((ss_seq (ss_asg (sd_lst 1 (len_cons len_nil) (by decide) (sd_cons (sd_tup 2 (len_cons (len_cons len_nil)) (by decide) (sd_cons sd_int (sd_cons sd_int sd_nil))) sd_nil)) sg_name)
    (ss_seq (ss_asg (sd_lst 2 (len_cons (len_cons len_nil)) (by decide) (sd_cons (sx_lam rfl (congrFun hl 0)) (sd_cons (sx_lam rfl (congrFun hl 1)) sd_nil))) sg_name)
    (ss_seq (ss_asg (sd_op sr_add sd_var (sd_lst 1 (len_cons len_nil) (by decide) (sd_cons (sx_lam rfl (congrFun hl 2)) sd_nil))) sg_name)
    (ss_seq (ss_asg (sd_op sr_add sd_var (sd_lst 2 (len_cons (len_cons len_nil)) (by decide) (sd_cons (sx_lam rfl (congrFun hl 3)) (sd_cons (sx_lam rfl (congrFun hl 4)) sd_nil)))) sg_name)
    (ss_seq (ss_asg (sd_op sr_add sd_var (sd_lst 2 (len_cons (len_cons len_nil)) (by decide) (sd_cons (sx_lam rfl (congrFun hl 5)) (sd_cons (sx_lam rfl (congrFun hl 6)) sd_nil)))) sg_name)
    (ss_seq (ss_asg (sd_op sr_add sd_var (sd_lst 2 (len_cons (len_cons len_nil)) (by decide) (sd_cons (sx_lam rfl (congrFun hl 7)) (sd_cons (sx_lam rfl (congrFun hl 8)) sd_nil)))) sg_name)
    (ss_seq (ss_asg (sd_lst 9 (len_cons (len_cons (len_cons (len_cons (len_cons (len_cons (len_cons (len_cons (len_cons len_nil))))))))) (by decide) (sd_cons sd_str (sd_cons sd_str (sd_cons sd_str (sd_cons sd_str (sd_cons sd_str (sd_cons sd_str (sd_cons sd_str (sd_cons sd_str (sd_cons sd_str sd_nil)))))))))) sg_name)
    (ss_seq (ss_if (sd_test (sd_op sr_ne (sx_lcW rfl rfl hcap (si_list sd_var) frd_list (fun bs => sg_name) (wp_name (by simp)) (fun bs => sd_yes) (fun bs => (sx_call0 (sd_cons sd_var (sd_cons sd_non sd_nil))))) sd_var)) (ss_ret sd_bl) ss_next)
    (ss_seq (ss_if (sd_test (sd_op sr_ne (sx_calW rfl rfl hcap (sd_cons (sx_lam rfl (congrFun hl 9)) (sd_cons sd_int sd_nil))) sd_str)) (ss_ret sd_bl) ss_next)
    (ss_seq (ss_if (sd_test (sd_op sr_ne (sx_calW rfl rfl hcap (sd_cons (sx_lam rfl (congrFun hl 10)) (sd_cons sd_int sd_nil))) sd_str)) (ss_ret sd_bl) ss_next)
    (ss_seq (ss_for (si_tup (sd_tup 8 (len_cons (len_cons (len_cons (len_cons (len_cons (len_cons (len_cons (len_cons len_nil)))))))) (by decide) (sd_cons (sd_lst 1 (len_cons len_nil) (by decide) (sd_cons (sd_tup 2 (len_cons (len_cons len_nil)) (by decide) (sd_cons sd_int (sd_cons sd_int sd_nil))) sd_nil)) (sd_cons (sd_lst 1 (len_cons len_nil) (by decide) (sd_cons (sd_tup 2 (len_cons (len_cons len_nil)) (by decide) (sd_cons sd_int (sd_cons sd_int sd_nil))) sd_nil)) (sd_cons (sd_lst 1 (len_cons len_nil) (by decide) (sd_cons (sd_lst 2 (len_cons (len_cons len_nil)) (by decide) (sd_cons sd_int (sd_cons sd_int sd_nil))) sd_nil)) (sd_cons (sd_lst 1 (len_cons len_nil) (by decide) (sd_cons (sd_tup 2 (len_cons (len_cons len_nil)) (by decide) (sd_cons sd_int (sd_cons sd_int sd_nil))) sd_nil)) (sd_cons (sd_lst 1 (len_cons len_nil) (by decide) (sd_cons (sd_tup 2 (len_cons (len_cons len_nil)) (by decide) (sd_cons sd_int (sd_cons sd_bl sd_nil))) sd_nil)) (sd_cons (sd_tup 1 (len_cons len_nil) (by decide) (sd_cons (sd_tup 2 (len_cons (len_cons len_nil)) (by decide) (sd_cons sd_int (sd_cons sd_int sd_nil))) sd_nil)) (sd_cons (sd_lst 1 (len_cons len_nil) (by decide) (sd_cons (sd_tup 1 (len_cons len_nil) (by decide) (sd_cons sd_int sd_nil)) sd_nil)) (sd_cons (sd_lst 1 (len_cons len_nil) (by decide) (sd_cons sd_non sd_nil)) sd_nil)))))))))) sg_name (ss_if (sd_test (sd_op sr_ne (sx_calW rfl rfl hcap (sd_cons (sx_lam rfl (congrFun hl 11)) (sd_cons sd_var sd_nil))) sd_str)) (ss_ret sd_bl) ss_next))
    (ss_seq (ss_for (si_tup (sd_tup 7 (len_cons (len_cons (len_cons (len_cons (len_cons (len_cons (len_cons len_nil))))))) (by decide) (sd_cons (sd_lst 1 (len_cons len_nil) (by decide) (sd_cons sd_int sd_nil)) (sd_cons (sd_lst 2 (len_cons (len_cons len_nil)) (by decide) (sd_cons sd_int (sd_cons (sd_negB sd_int) sd_nil))) (sd_cons (sd_lst 2 (len_cons (len_cons len_nil)) (by decide) (sd_cons sd_int (sd_cons sd_bl sd_nil))) (sd_cons (sd_tup 2 (len_cons (len_cons len_nil)) (by decide) (sd_cons sd_int (sd_cons sd_int sd_nil))) (sd_cons (sd_lst 3 (len_cons (len_cons (len_cons len_nil))) (by decide) (sd_cons sd_int (sd_cons sd_int (sd_cons sd_int sd_nil)))) (sd_cons (sd_lst 2 (len_cons (len_cons len_nil)) (by decide) (sd_cons sd_int (sd_cons sd_non sd_nil))) (sd_cons (sd_lst 2 (len_cons (len_cons len_nil)) (by decide) (sd_cons (sd_negB sd_var) (sd_cons sd_int sd_nil))) sd_nil))))))))) sg_name (ss_if (sd_test (sd_op sr_ne (sx_calW rfl rfl hcap (sd_cons (sx_lam rfl (congrFun hl 12)) (sd_cons sd_var sd_nil))) sd_str)) (ss_ret sd_bl) ss_next))
    (ss_ret (sd_cb sc_all (sd_cons (sx_lcW rfl rfl hcap (si_tup (sd_tup 7 (len_cons (len_cons (len_cons (len_cons (len_cons (len_cons (len_cons len_nil))))))) (by decide) (sd_cons sd_int (sd_cons (sd_negB sd_int) (sd_cons sd_bl (sd_cons sd_int (sd_cons sd_var (sd_cons sd_non (sd_cons sd_str sd_nil))))))))) frd_tup (fun bs => sg_name) (wp_name (by simp)) (fun bs => sd_yes) (fun bs => (sd_op sr_eq (sx_call0 (sd_cons (sx_lamN rfl (congrFun hl 13) (fun _ => rfl) rfl) (sd_cons sd_var sd_nil))) sd_str))) sd_nil))))))))))))))))⟩)

abbrev s_law : Stmt := top 45
theorem sc_law : FnScope ["_law_script", "_law_far"] ["_law_script"] (defScope s_law) := ⟨rfl, rfl, rfl, by decide +kernel, rfl, by decide +kernel, by decide +kernel⟩
theorem ok_law {f : Addr} {fd : FuncData} (F : Fun g.K "law" "law" s_law f fd) (T : Tx g mg) (c__law_limits_right : Cal P w g.K mg base (CXN P w) 5 "_law_limits_right" ["_law_far"] (iSpX g i__law_limits_right)) (c__law_even_right : Cal P w g.K mg base (CXN P w) 5 "_law_even_right" [] (iSpX g i__law_even_right)) (c__law_passed_right : Cal P w g.K mg base (CXN P w) 5 "_law_passed_right" [] (iSpX g i__law_passed_right)) (c__law_rings_right : Cal P w g.K mg base (CXN P w) 5 "_law_rings_right" [] (iSpX g i__law_rings_right)) (c__law_refused_right : Cal P w g.K mg base (CXN P w) 7 "_law_refused_right" ["_law_far"] (iSpX g i__law_refused_right)) : FnOk P w g.K mg base (CXN P w) 8 f fd ["_law_script"] (iSpX g (i_law g.ns)) :=
  okN F sc_law (iSpX_len rfl) (fun cdv AA outer s H vs Q E hr h => ⟨_, (pss_cons (ps_set (i := 1) sc_law.nd rfl (by first | exact Or.inl rfl | exact Or.inr rfl) (pe_op op_ADD (pe_op op_pow pe_int pe_int) (pe_callB call_ABS (by rfl) T.b.abs (by decide +kernel) (pa_cons (pe_callB (cr_sum rfl) (by rfl) T.b.sum (by decide +kernel) (pa_cons (pe_slice sl_list (pv 0) po_none (po_some pe_int)) pa_nil)) pa_nil))))
    (pss_cons (ps_if (pw_or (pt_not (pt_truth (px_cal c__law_limits_right (hr.mono (by decide)) (by rfl) passD (pa_cons (pv 1) pa_nil)) (fun _ => rfl))) (pw_or1 (pt_not (pt_truth (px_cal0 c__law_even_right (hr.mono (by decide)) (by rfl) passD) (fun _ => rfl))))).pt (pss_one (ps_ret pe_bl)) pss_nil)
    (pss_one (ps_ret (pe_and (px_cal0 c__law_passed_right (hr.mono (by decide)) (by rfl) passD) (pe_and (px_cal0 c__law_rings_right (hr.mono (by decide)) (by rfl) passD) (pe_one (px_cal c__law_refused_right (hr.mono (by decide)) (by rfl) passD (pa_cons (pv 1) pa_nil))))))))), bodyX h rfl ((ss_seq (ss_asg (sd_op sr_add (sd_op sr_pow sd_int sd_int) (sd_cb sc_abs (sd_cons (sd_cb sc_sum (sd_cons (sd_sl sd_var so_none (so_some sd_int)) sd_nil)) sd_nil))) sg_name)
    (ss_seq (ss_if (sd_or (sd_not (sd_tru (sx_callE rfl (sd_cons sd_var sd_nil)))) (sd_not (sd_tru (sx_callE rfl sd_nil)))) (ss_ret sd_bl) ss_next)
    (ss_ret (sd_andV (sx_callE rfl sd_nil) (sd_andV (sx_callE rfl sd_nil) (sx_callE rfl (sd_cons sd_var sd_nil))))))))⟩)

end
end IL

end
section
set_option Elab.async false
set_option linter.all false
set_option maxRecDepth 100000
set_option maxHeartbeats 2000000
namespace IL
open PySem L2
/-! ### a computable twin of the plain machine: it ends as the plain one does, or says nothing -/
def LeR {α : Type} (r r' : R α) : Prop := r = .no ∨ r = r'
def LeO (o o' : O) : Prop := o = .no ∨ o = o'
def Lx {α : Type} (a b : Env → Sto → R α) : Prop := ∀ ρ S, LeR (a ρ S) (b ρ S)
def Ls (a b : IS) : Prop := ∀ ρ S, LeO (a ρ S) (b ρ S)
def Lf {α : Type} (f f' : α → Sto → R Va) : Prop := ∀ xs S, LeR (f xs S) (f' xs S)
def Lo {α : Type} (f f' : Va → α → Sto → R Va) : Prop := ∀ x y S, LeR (f x y S) (f' x y S)
def Lt (t t' : List (Nat × LFn)) : Prop := ∀ i, (t.lookup i = none) ∨ ∃ f f', t.lookup i = some f ∧ t'.lookup i = some f' ∧ ∀ cs, Lf (f cs) (f' cs)
theorem LeR.refl {α : Type} (r : R α) : LeR r r := .inr rfl
theorem LeO.refl (r : O) : LeO r r := .inr rfl
theorem Lx.refl {α : Type} (a : Env → Sto → R α) : Lx a a := fun _ _ => .inr rfl
theorem Ls.refl (a : IS) : Ls a a := fun _ _ => .inr rfl
theorem Lf.refl {α : Type} (a : α → Sto → R Va) : Lf a a := fun _ _ => .inr rfl
theorem Lo.refl {α : Type} (a : Va → α → Sto → R Va) : Lo a a := fun _ _ _ => .inr rfl
theorem LeR.bind {α β : Type} {r r' : R α} {k k' : α → Sto → R β} (h : LeR r r') (hk : ∀ a S, LeR (k a S) (k' a S)) : LeR (r.bind k) (r'.bind k') := by
  rcases h with rfl | rfl
  · exact .inl rfl
  · cases r with
    | ok a S => exact hk a S
    | ex c S => exact .inr rfl
    | no => exact .inl rfl
theorem LeR.bindN {α β : Type} {r r' : R α} {k k' : α → Sto → R β} (h : LeR r r') (hk : ∀ a S, LeR (k a S) (k' a S)) : LeR (r.bindN k) (r'.bindN k') := by
  rcases h with rfl | rfl
  · exact .inl rfl
  · cases r with
    | ok a S => exact hk a S
    | ex c S => exact .inr rfl
    | no => exact .inl rfl
theorem LeR.toO {α : Type} {r r' : R α} {ρ : Env} {k k' : α → Sto → O} (h : LeR r r') (hk : ∀ a S, LeO (k a S) (k' a S)) : LeO (r.toO ρ k) (r'.toO ρ k') := by
  rcases h with rfl | rfl
  · exact .inl rfl
  · cases r with
    | ok a S => exact hk a S
    | ex c S => exact .inr rfl
    | no => exact .inl rfl
theorem LeO.seq {r r' : O} {k k' : IS} (h : LeO r r') (hk : Ls k k') : LeO (r.seq k) (r'.seq k') := by
  rcases h with rfl | rfl
  · exact .inl rfl
  · cases r with
    | nx ρ S => exact hk ρ S
    | rt v S => exact .inr rfl
    | ex c ρ S => exact .inr rfl
    | no => exact .inl rfl
theorem LeO.val {r r' : O} (h : LeO r r') : LeR r.val r'.val := by
  rcases h with rfl | rfl
  · exact .inl rfl
  · exact .inr rfl
theorem LeR.ite {α : Type} {c : Prop} [Decidable c] {r r' s s' : R α} (h : LeR r r') (k : LeR s s') : LeR (if c then r else s) (if c then r' else s') := by
  by_cases hc : c
  · rw [if_pos hc, if_pos hc]; exact h
  · rw [if_neg hc, if_neg hc]; exact k
theorem LeO.ite {c : Prop} [Decidable c] {r r' s s' : O} (h : LeO r r') (k : LeO s s') : LeO (if c then r else s) (if c then r' else s') := by
  by_cases hc : c
  · rw [if_pos hc, if_pos hc]; exact h
  · rw [if_neg hc, if_neg hc]; exact k
section
variable {a a' b b' c c' o o' e e' : IE} {t t' u u' : IT} {i i' j j' : IS} {A A' : IA} {f f' g g' : Va → Va → Sto → R Va} {F F' : Fn}
theorem lx_op (hf : Lo f f') (ha : Lx a a') (hb : Lx b b') : Lx (iOp f a b) (iOp f' a' b') := fun ρ S => (ha ρ S).bind fun x S1 => (hb ρ S1).bind fun y S2 => hf x y S2
theorem lx_un {f : Va → Sto → R Va} (ha : Lx a a') : Lx (iUn f a) (iUn f a') := fun ρ S => (ha ρ S).bind fun x S1 => .refl _
theorem lx_cons (ha : Lx a a') (hb : Lx A A') : Lx (iCons a A) (iCons a' A') := fun ρ S => (ha ρ S).bind fun x S1 => (hb ρ S1).bind fun y S2 => .refl _
theorem lx_lst (ha : Lx A A') : Lx (iLst A) (iLst A') := fun ρ S => (ha ρ S).bind fun x S1 => .refl _
theorem lx_tup (ha : Lx A A') : Lx (IL.iTup A) (IL.iTup A') := fun ρ S => (ha ρ S).bind fun x S1 => .refl _
theorem lx_cb {f f' : List Va → Sto → R Va} (hf : Lf f f') (ha : Lx A A') : Lx (iCB f A) (iCB f' A') := fun ρ S => (ha ρ S).bind fun x S1 => hf x S1
theorem lx_B (ha : Lx a a') : Lx (iB a) (iB a') := fun ρ S => (ha ρ S).bind fun x S1 => .refl _
theorem lx_and (ht : Lx t t') (hu : Lx u u') : Lx (iAnd t u) (iAnd t' u') := fun ρ S => (ht ρ S).bind fun x S1 => .ite (hu ρ S1) (.refl _)
theorem lx_or (ht : Lx t t') (hu : Lx u u') : Lx (IL.iOr t u) (IL.iOr t' u') := fun ρ S => (ht ρ S).bind fun x S1 => .ite (.refl _) (hu ρ S1)
theorem lx_not (ht : Lx t t') : Lx (iNot t) (iNot t') := fun ρ S => (ht ρ S).bind fun x S1 => .refl _
theorem lx_andV (ha : Lx a a') (hb : Lx b b') : Lx (iAndV a b) (iAndV a' b') := fun ρ S => (ha ρ S).bind fun x S1 => (LeR.refl _).bind fun k S1 => .ite (hb ρ S1) (.refl _)
theorem lx_orV (ha : Lx a a') (hb : Lx b b') : Lx (iOrV a b) (iOrV a' b') := fun ρ S => (ha ρ S).bind fun x S1 => (LeR.refl _).bind fun k S1 => .ite (.refl _) (hb ρ S1)
theorem lx_notV (ha : Lx a a') : Lx (iNotV a) (iNotV a') := fun ρ S => (ha ρ S).bind fun x S1 => .refl _
theorem lx_if (ht : Lx t t') (ha : Lx a a') (hb : Lx b b') : Lx (iIf t a b) (iIf t' a' b') := fun ρ S => (ht ρ S).bind fun x S1 => .ite (ha ρ S1) (hb ρ S1)
theorem lx_chain (hf : Lo f f') (hg : Lo g g') (ha : Lx a a') (hb : Lx b b') (hc : Lx c c') : Lx (iChain f g a b c) (iChain f' g' a' b' c') := fun ρ S => (ha ρ S).bind fun x S1 => (hb ρ S1).bind fun y S2 => (hf x y S2).bind fun z S3 => (LeR.refl _).bind fun k S3 => .ite ((hc ρ S3).bind fun w S4 => hg y w S4) (.refl _)
theorem lx_call (hf : Lf F F') (ha : Lx A A') : Lx (iCall F A) (iCall F' A') := fun ρ S => (ha ρ S).bind fun x S1 => hf x S1
theorem lx_make {s : Str} (hf : Lf F F') (ha : Lx A A') : Lx (iMake s F A) (iMake s F' A') := fun ρ S => (ha ρ S).bind fun x S1 => (hf _ _).bind fun v S2 => .refl _
theorem lx_fld {s : Str} (ha : Lx a a') : Lx (iFld a s) (iFld a' s) := fun ρ S => (ha ρ S).bind fun x S1 => .refl _
theorem lx_bm {f f' : Va → List Va → Sto → R Va} (hf : Lo f f') (ho : Lx o o') (ha : Lx A A') : Lx (iBM f o A) (iBM f' o' A') := fun ρ S => (ho ρ S).bind fun x S1 => by
  cases getL S1 x with
  | none => exact .refl _
  | some _ => exact (ha ρ S1).bind fun xs S2 => hf x xs S2
theorem lx_meth {s m : Str} (hf : Lf F F') (ho : Lx o o') (ha : Lx A A') : Lx (iMeth s m F o A) (iMeth s m F' o' A') := fun ρ S => (ho ρ S).bind fun x S1 => by
  cases getO S1 x with
  | none => exact .refl _
  | some p => exact .ite ((ha ρ S1).bind fun xs S2 => hf _ _) (.refl _)
theorem lx_is {s : Str} (ho : Lx o o') (ha : Lx a a') (hb : Lx b b') : Lx (iIs s o a b) (iIs s o' a' b') := fun ρ S => by
  unfold iIs
  rcases ho ρ S with h | h
  · rw [h]; exact .inl rfl
  · rw [h]
    cases o' ρ S with
    | ok x S1 =>
      dsimp only
      cases getO S1 x with
      | none => exact .refl _
      | some p => exact .ite (ha ρ S) (hb ρ S)
    | ex c S1 => exact .refl _
    | no => exact .refl _
theorem lx_sl {lo lo' hi hi' : IO} (ha : Lx a a') (hl : Lx lo lo') (hh : Lx hi hi') : Lx (iSl a lo hi) (iSl a' lo' hi') := fun ρ S => (ha ρ S).bind fun x S1 => (hl ρ S1).bind fun l S2 => (hh ρ S2).bind fun h S3 => .refl _
theorem lx_part (ha : Lx a a') : Lx (iPart a) (iPart a') := fun ρ S => (ha ρ S).bind fun x S1 => .refl _
theorem lx_rev (ha : Lx a a') : Lx (iRev a) (iRev a') := fun ρ S => (ha ρ S).bind fun x S1 => .refl _
theorem lx_listRg (ha : Lx a a') : Lx (iListRg a) (iListRg a') := fun ρ S => (ha ρ S).bind fun x S1 => .refl _
theorem lx_dget (ha : Lx a a') (hb : Lx b b') : Lx (iDGet a b) (iDGet a' b') := lx_op (.refl _) ha hb
theorem lx_din {n : Bool} (ha : Lx a a') (hb : Lx b b') : Lx (iDIn n a b) (iDIn n a' b') := lx_op (.refl _) ha hb
theorem lx_itList (ha : Lx a a') : Lx (itList a) (itList a') := fun ρ S => (ha ρ S).bind fun x S1 => .refl _
theorem lx_itTup (ha : Lx a a') : Lx (itTup a) (itTup a') := fun ρ S => (ha ρ S).bind fun x S1 => .refl _
theorem lx_itRng (ha : Lx a a') : Lx (itRng a) (itRng a') := fun ρ S => (ha ρ S).bind fun x S1 => .refl _
theorem lx_itEnum (ha : Lx a a') : Lx (itEnum a) (itEnum a') := fun ρ S => (ha ρ S).bind fun x S1 => .refl _
theorem lx_itZip (ha : Lx a a') (hb : Lx b b') : Lx (itZip a b) (itZip a' b') := fun ρ S => (ha ρ S).bind fun x S1 => (hb ρ S1).bind fun y S2 => .refl _
theorem le_lcL {chk : Sto → Bool} {tg : IG} (ht : Lx t t') (he : Lx e e') (ρ : Env) : ∀ (its : List It1) (S : Sto), LeR (lcL chk tg t e ρ its S) (lcL chk tg t' e' ρ its S)
  | [], S => .refl _
  | it :: r, S => by
    unfold lcL
    refine .ite ((LeR.refl _).bindN fun ρ1 S1 => (ht ρ1 S1).bindN fun b S2 => .ite ((he ρ1 S2).bindN fun y S3 => (le_lcL ht he ρ r S3).bindN fun ys S4 => .refl _) (le_lcL ht he ρ r S2)) (.refl _)
theorem lx_lc {ii ii' : II} {tg : IG} {vs : List Nat} (hi : Lx ii ii') (ht : Lx t t') (he : Lx e e') : Lx (iLc ii tg t e vs) (iLc ii' tg t' e' vs) := fun ρ S => (hi ρ S).bind fun I S1 => .ite ((le_lcL ht he _ _ _).bindN fun ys S2 => .refl _) (.refl _)
theorem lx_lcK {d : Nat} {tg : IG} {vs : List Nat} (ht : Lx t t') (he : Lx e e') : Lx (iLcK d tg t e vs) (iLcK d tg t' e' vs) := fun ρ S => by
  unfold iLcK
  split
  · split
    · exact .ite ((le_lcL ht he _ _ _).bindN fun ys S2 => .refl _) (.refl _)
    · exact .refl _
  · exact .refl _
theorem lx_lcW {caps : List (Nat × List Nat)} {ii ii' : II} {tg : IG} {vs : List Nat} (hi : Lx ii ii') (ht : Lx t t') (he : Lx e e') : Lx (iLcW caps ii tg t e vs) (iLcW caps ii' tg t' e' vs) := fun ρ S => (hi ρ S).bind fun I S1 => .ite ((le_lcL ht he _ _ _).bindN fun ys S2 => .refl _) (.refl _)
theorem lx_callW {caps : List (Nat × List Nat)} (hf : Lf F F') (ha : Lx A A') : Lx (iCallW caps F A) (iCallW caps F' A') := fun ρ S => (ha ρ S).bind fun xs S1 => by
  rcases hf xs (S1.map (closeO caps ρ)) with h | h
  · rw [h]; exact .inl rfl
  · rw [h]; exact .refl _
theorem lx_callV {k : Nat} {tb tb' : List (Nat × LFn)} (ht : Lt tb tb') (ha : Lx A A') : Lx (iCallV k tb A) (iCallV k tb' A') := fun ρ S => by
  unfold iCallV
  split
  · split
    · rename_i n _ i cs _
      rcases ht i with h | ⟨f, f', h1, h2, h3⟩
      · rw [h]; exact .inl rfl
      · rw [h1, h2]; exact (ha ρ S).bind fun x S1 => h3 cs x S1
    · exact .refl _
  · exact .refl _
theorem lt_nil' : Lt [] [] := fun _ => .inl rfl
theorem lt_cons' {n : Nat} {f f' : LFn} {r r' : List (Nat × LFn)} (h : ∀ cs, Lf (f cs) (f' cs)) (hr : Lt r r') : Lt ((n, f) :: r) ((n, f') :: r') := fun i => by
  rw [List.lookup_cons, List.lookup_cons]
  cases i == n with
  | true => exact .inr ⟨f, f', rfl, rfl, h⟩
  | false => exact hr i
theorem ls_seq (hi : Ls i i') (hj : Ls j j') : Ls (sSeq i j) (sSeq i' j') := fun ρ S => (hi ρ S).seq hj
theorem ls_asg {tg : IG} (ha : Lx a a') : Ls (sAsg a tg) (sAsg a' tg) := fun ρ S => (ha ρ S).toO fun x S1 => .refl _
theorem ls_par {m n : Nat} (ha : Lx A A') : Ls (sPar m n A) (sPar m n A') := fun ρ S => (ha ρ S).toO fun x S1 => .refl _
theorem ls_par3 {m n l : Nat} (ha : Lx A A') : Ls (sPar3 m n l A) (sPar3 m n l A') := fun ρ S => (ha ρ S).toO fun x S1 => .refl _
theorem ls_expr (ha : Lx a a') : Ls (sExpr a) (sExpr a') := fun ρ S => (ha ρ S).toO fun x S1 => .refl _
theorem ls_ret (ha : Lx a a') : Ls (sRet a) (sRet a') := fun ρ S => (ha ρ S).toO fun x S1 => .refl _
theorem ls_if (ht : Lx t t') (hi : Ls i i') (hj : Ls j j') : Ls (sIf t i j) (sIf t' i' j') := fun ρ S => (ht ρ S).toO fun x S1 => .ite (hi ρ S1) (hj ρ S1)
theorem ls_fldSet {s : Str} (ho : Lx o o') (he : Lx e e') : Ls (sFldSet o s e) (sFldSet o' s e') := fun ρ S => (he ρ S).toO fun x S1 => (ho ρ S1).toO fun y S2 => .refl _
theorem ls_dset (ho : Lx o o') (ha : Lx a a') (he : Lx e e') : Ls (sDSet o a e) (sDSet o' a' e') := fun ρ S => (he ρ S).toO fun x S1 => (ho ρ S1).toO fun y S2 => (ha ρ S2).toO fun z S3 => .refl _
theorem ls_aug {n : Nat} (ha : Lx a a') : Ls (sAug n a) (sAug n a') := fun ρ S => by
  unfold sAug
  split
  · exact (ha ρ S).toO fun x S1 => .refl _
  · exact .refl _
theorem ls_augS (ho : Lx o o') (ha : Lx a a') (he : Lx e e') : Ls (sAugS o a e) (sAugS o' a' e') := fun ρ S => (ho ρ S).toO fun x S1 => (ha ρ S1).toO fun y S2 => (LeR.refl _).toO fun z S3 => (he ρ S3).toO fun w S4 => .refl _
theorem ls_forL {chk : Sto → Bool} {tg : IG} (hi : Ls i i') : ∀ its : List It1, Ls (forL chk tg i its) (forL chk tg i' its)
  | [] => .refl _
  | it :: r => fun ρ S => by
    unfold forL
    exact .ite (((LeR.refl _).toO fun ρ1 S1 => hi ρ1 S1).seq (ls_forL hi r)) (.refl _)
theorem ls_for {ii ii' : II} {tg : IG} (h : Lx ii ii') (hi : Ls i i') : Ls (sFor ii tg i) (sFor ii' tg i') := fun ρ S => (h ρ S).toO fun I S1 => ls_forL hi _ _ _
theorem ls_try {n : Nat} (hi : Ls i i') (hj : Ls j j') : Ls (sTry n i j) (sTry n i' j') := fun ρ S => by
  unfold sTry
  rcases hi ρ S with h | h
  · rw [h]; exact .inl rfl
  · rw [h]
    cases i' ρ S with
    | ex c ρ1 S1 =>
      refine .ite ?_ (.refl _)
      rcases hj (ρ1.set n (some (.exc c))) S1 with h | h
      · rw [h]; exact .inl rfl
      · rw [h]; exact .refl _
    | _ => exact .refl _
theorem ls_whF (ht : Lx t t') (hi : Ls i i') : ∀ n, Ls (whF t i n) (whF t' i' n)
  | 0 => .refl _
  | n + 1 => fun ρ S => by
    unfold whF
    exact (ht ρ S).toO fun k S1 => .ite ((hi ρ S1).seq (ls_whF ht hi n)) (.refl _)
def cWhile (n : Nat) (c : IT) (body : IS) : IS := whF c body n
theorem ls_while {n : Nat} (ht : Lx t t') (hi : Ls i i') : Ls (cWhile n t i) (sWhile t' i') := fun ρ S => by
  unfold cWhile
  rcases ls_whF ht hi n ρ S with h | h
  · exact .inl h
  · by_cases hn : whF t' i' n ρ S = .no
    · rw [h]; exact .inl hn
    · rw [h]; exact .inr (sWhile_eq hn).symm
theorem lf_mk {p n : Nat} (h : Ls i i') : Lf (mkFn p n i) (mkFn p n i') := fun xs S => .ite (h _ _).val (.refl _)
theorem lf_mkW {p n : Nat} (h : Ls i i') : Lf (mkFnW p n i) (mkFnW p n i') := fun xs S => by
  unfold mkFnW
  rcases lf_mk (p := p) (n := n) h xs S with h | h
  · rw [h]; exact .inl rfl
  · rw [h]; exact .refl _
theorem lf_lam {p c n : Nat} (h : Lx e e') : ∀ cs, Lf (mkLam p c n e cs) (mkLam p c n e' cs) := fun cs xs S => .ite (h _ _) (.refl _)
end
/-! comparisons that look no deeper than they must -/
def ltN : Nat → Nat → Bool
  | _, 0 => false
  | 0, _ + 1 => true
  | m + 1, n + 1 => ltN m n
theorem ltN_eq : ∀ m n, ltN m n = decide (m < n)
  | _, 0 => by simp [ltN]
  | 0, _ + 1 => by simp [ltN]
  | m + 1, n + 1 => by simp [ltN, ltN_eq m n]
def ltI : Int → Int → Bool
  | .ofNat m, .ofNat n => ltN m n
  | .ofNat _, .negSucc _ => false
  | .negSucc _, .ofNat _ => true
  | .negSucc m, .negSucc n => ltN n m
theorem ltI_eq (i j : Int) : ltI i j = decide (i < j) := by
  cases i with
  | ofNat m => cases j with
    | ofNat n => simp only [ltI, ltN_eq]; exact decide_eq_decide.mpr (by simp)
    | negSucc n => simp only [ltI]; symm; exact decide_eq_false (by simp only [Int.ofNat_eq_natCast]; omega)
  | negSucc m => cases j with
    | ofNat n => simp only [ltI]; symm; exact decide_eq_true (by simp only [Int.ofNat_eq_natCast]; omega)
    | negSucc n => simp only [ltI, ltN_eq]; exact decide_eq_decide.mpr (by omega)
def cLt := fII fun i j => .bl (ltI i j)
def cLe := fII fun i j => .bl (!ltI j i)
def cGt := fII fun i j => .bl (ltI j i)
def cGe := fII fun i j => .bl (!ltI i j)
theorem lo_lt : Lo cLt fLt := fun x y S => .inr (by unfold cLt; simp only [ltI_eq])
theorem lo_gt : Lo cGt fGt := fun x y S => .inr (by unfold cGt; simp only [ltI_eq])
theorem nlt_eq (i j : Int) : (!ltI i j) = decide (j ≤ i) := by rw [ltI_eq, ← decide_not]; exact decide_eq_decide.mpr (by omega)
theorem lo_le : Lo cLe fLe := fun x y S => .inr (by unfold cLe; simp only [nlt_eq])
theorem lo_ge : Lo cGe fGe := fun x y S => .inr (by unfold cGe; simp only [nlt_eq])
def cMul : Va → Va → Sto → R Va
  | .int i, .int j, S => if i.natAbs < 2 ^ 64 ∧ j.natAbs < 2 ^ 64 then .ok (.int (i * j)) S else .no
  | .ref a, .int k, S => match S[a]? with
    | some (.lst xs) => if 0 ≤ k ∧ k ≤ 100000 ∧ xs.length * k.toNat ≤ 100000 then .ok (.ref S.length) (S ++ [.lst (List.replicate k.toNat xs).flatten]) else .no
    | _ => .no
  | _, _, _ => .no
theorem lo_mul : Lo cMul fMul := fun x y S => by
  cases x with
  | int i => cases y with
    | int j =>
      unfold cMul
      dsimp only
      split
      · rename_i h
        have : IntMulOk i j := CMul.ok (.inl ⟨by omega, by omega⟩)
        exact .inr (by simp only [fMul, this, if_true])
      · exact .inl rfl
    | _ => exact .inl rfl
  | ref a => cases y with
    | int k =>
      unfold cMul fMul
      dsimp only
      cases S[a]? with
      | none => exact .refl _
      | some ob => cases ob with
        | lst xs => dsimp only; split <;> simp_all [LeR]
        | _ => exact .refl _
    | _ => exact .inl rfl
  | _ => exact .inl rfl
def insI (x : Int) : List Int → List Int
  | [] => [x]
  | y :: r => if ltI y x = true then y :: insI x r else x :: y :: r
def isrt : List Int → List Int
  | [] => []
  | x :: r => insI x (isrt r)
theorem insI_perm (x : Int) : ∀ l, (insI x l).Perm (x :: l)
  | [] => .refl _
  | y :: r => by
    unfold insI
    split
    · exact ((insI_perm x r).cons y).trans (.swap x y r)
    · exact .refl _
theorem isrt_perm : ∀ l, (isrt l).Perm l
  | [] => .refl _
  | x :: r => (insI_perm x _).trans ((isrt_perm r).cons x)
theorem insI_sorted (x : Int) : ∀ l : List Int, l.Pairwise (· ≤ ·) → (insI x l).Pairwise (· ≤ ·)
  | [], _ => by simp [insI]
  | y :: r, h => by
    rw [List.pairwise_cons] at h
    unfold insI
    rw [ltI_eq]
    split
    · rename_i hl
      have hl := of_decide_eq_true hl
      rw [List.pairwise_cons]
      refine ⟨fun z hz => ?_, insI_sorted x r h.2⟩
      rcases List.mem_cons.mp ((insI_perm x r).mem_iff.mp hz) with rfl | hz
      · omega
      · exact h.1 z hz
    · rename_i hl
      have hl : ¬ y < x := fun z => hl (decide_eq_true z)
      rw [List.pairwise_cons, List.pairwise_cons]
      refine ⟨fun z hz => ?_, h⟩
      rcases List.mem_cons.mp hz with rfl | hz
      · omega
      · have := h.1 z hz; omega
theorem isrt_sorted : ∀ l, (isrt l).Pairwise (· ≤ ·)
  | [] => .nil
  | x :: r => insI_sorted x _ (isrt_sorted r)
theorem isrt_eq (l : List Int) : isrt l = srt l := by
  unfold srt
  refine List.Perm.eq_of_pairwise (le := fun a b => a ≤ b) (fun a b _ _ h1 h2 => Int.le_antisymm h1 h2) (isrt_sorted l) ?_ ((isrt_perm l).trans (List.mergeSort_perm _ _).symm)
  have := List.pairwise_mergeSort (le := fun a b : Int => decide (a ≤ b)) (fun a b c h1 h2 => by simp at h1 h2 ⊢; omega) (fun a b => by simp; omega) l
  exact this.imp fun h => by simpa using h
def cSorted : List Va → Sto → R Va
  | [x], S => match (getL S x).bind asIs with
    | some ns => .ok (.ref S.length) (S ++ [.lst ((isrt ns).map .int)])
    | none => .no
  | _, _ => .no
def cSortedD : List Va → Sto → R Va
  | [x], S => match keysOf S x with
    | some ns => if ns.length < 64 then .ok (.ref S.length) (S ++ [.lst ((isrt ns).map .int)]) else .no
    | none => .no
  | _, _ => .no
def cSortedSet : List Va → Sto → R Va
  | [x], S => match (getL S x).bind asIs with
    | some ns => if ns.length < 64 then .ok (.ref S.length) (S ++ [.lst ((isrt (dd ns)).map .int)]) else .no
    | none => .no
  | _, _ => .no
theorem lf_sorted : Lf cSorted fSorted := fun x S => .inr (by unfold cSorted fSorted; simp only [isrt_eq] <;> rfl)
theorem lf_sortedD : Lf cSortedD fSortedD := fun x S => .inr (by unfold cSortedD fSortedD; simp only [isrt_eq] <;> rfl)
theorem lf_sortedSet : Lf cSortedSet fSortedSet := fun x S => .inr (by unfold cSortedSet fSortedSet; simp only [isrt_eq] <;> rfl)
def isT : R Va → Bool
  | .ok (.bl true) _ => true
  | _ => false
theorem ok_of_isT {r r' : R Va} (h : LeR r r') (e : isT r = true) : ∃ S, r' = .ok (.bl true) S := by
  rcases h with rfl | rfl
  · cases e
  · cases r with
    | ok v S => cases v with
      | bl b => cases b with
        | true => exact ⟨S, rfl⟩
        | false => cases e
      | _ => cases e
    | ex c S => cases e
    | no => cases e
end IL

end
section
set_option Elab.async false
set_option linter.all false
set_option maxRecDepth 100000
set_option maxHeartbeats 2000000
namespace IL
open PySem L2
/-! ### the twin's store: its spine is kept laid out -/
section
variable {α β : Type}
def lenF : Sto → Ob → (Nat → Sto → β) → β
  | [], o, k => k 0 [o]
  | x :: xs, o, k => lenF xs o fun n ys => k (Nat.succ n) (x :: ys)
theorem lenF_eq : ∀ (S : Sto) (o : Ob) (k : Nat → Sto → β), lenF S o k = k S.length (S ++ [o])
  | [], _, _ => rfl
  | x :: xs, o, k => by rw [lenF, lenF_eq xs]; rfl
end
def allocC (S : Sto) (o : Ob) : R Va := lenF S o fun n S2 => .ok (.ref n) S2
theorem allocC_eq (S : Sto) (o : Ob) : allocC S o = .ok (.ref S.length) (S ++ [o]) := lenF_eq _ _ _
def allocL (S : Sto) (xs : List Va) : R Va := fL xs fun ys => allocC S (.lst ys)
theorem allocL_eq (S : Sto) (xs : List Va) : allocL S xs = .ok (.ref S.length) (S ++ [.lst xs]) := by unfold allocL; rw [fL_eq, allocC_eq]
def putC (S : Sto) (n : Nat) (xs : List Va) : R Va := fL xs fun ys => setF S n (.lst ys) fun S2 => .ok .non S2
theorem putC_eq (S : Sto) (n : Nat) (xs : List Va) : putC S n xs = .ok .non (S.set n (.lst xs)) := by unfold putC; rw [fL_eq, setF_eq]
def cLst (a : IA) : IE := fun ρ S => (a ρ S).bind fun xs S1 => allocL S1 xs
theorem cLst_eq (a : IA) : cLst a = iLst a := by unfold cLst iLst; simp only [allocL_eq] <;> rfl
def cTup (a : IA) : IE := fun ρ S => (a ρ S).bind fun xs S1 => fL xs fun ys => allocC S1 (.tup ys)
theorem cTup_eq (a : IA) : cTup a = IL.iTup a := by unfold cTup IL.iTup; simp only [fL_eq, allocC_eq] <;> rfl
def cAdd : Va → Va → Sto → R Va
  | .int i, .int j, S => .ok (.int (i + j)) S
  | .ref a, .ref b, S => match S[a]?, S[b]? with
    | some (.lst xs), some (.lst ys) => if xs.length + ys.length ≤ 100000 then allocL S (xs ++ ys) else .no
    | _, _ => .no
  | _, _, _ => .no
theorem cAdd_eq : cAdd = fAdd := by unfold cAdd fAdd; simp only [allocL_eq] <;> rfl
def cMulF : Va → Va → Sto → R Va
  | .int i, .int j, S => if i.natAbs < 2 ^ 64 ∧ j.natAbs < 2 ^ 64 then .ok (.int (i * j)) S else .no
  | .ref a, .int k, S => match S[a]? with
    | some (.lst xs) => if 0 ≤ k ∧ k ≤ 100000 ∧ xs.length * k.toNat ≤ 100000 then allocL S (List.replicate k.toNat xs).flatten else .no
    | _ => .no
  | _, _, _ => .no
theorem cMulF_eq : cMulF = cMul := by unfold cMulF cMul; simp only [allocL_eq] <;> rfl
def cList : List Va → Sto → R Va
  | [x], S => match getQ S x with
    | some xs => allocL S xs
    | none => .no
  | _, _ => .no
theorem cList_eq : cList = fList := by unfold cList fList; simp only [allocL_eq] <;> rfl
def cSortedF : List Va → Sto → R Va
  | [x], S => match (getL S x).bind asIs with
    | some ns => allocL S ((isrt ns).map .int)
    | none => .no
  | _, _ => .no
theorem cSortedF_eq : cSortedF = cSorted := by unfold cSortedF cSorted; simp only [allocL_eq] <;> rfl
def cSortedDF : List Va → Sto → R Va
  | [x], S => match keysOf S x with
    | some ns => if ns.length < 64 then allocL S ((isrt ns).map .int) else .no
    | none => .no
  | _, _ => .no
theorem cSortedDF_eq : cSortedDF = cSortedD := by unfold cSortedDF cSortedD; simp only [allocL_eq] <;> rfl
def cSortedSetF : List Va → Sto → R Va
  | [x], S => match (getL S x).bind asIs with
    | some ns => if ns.length < 64 then allocL S ((isrt (dd ns)).map .int) else .no
    | none => .no
  | _, _ => .no
theorem cSortedSetF_eq : cSortedSetF = cSortedSet := by unfold cSortedSetF cSortedSet; simp only [allocL_eq] <;> rfl
def cAppend : Va → List Va → Sto → R Va
  | .ref n, [y], S => match S[n]? with
    | some (.lst xs) => if xs.length < 100000 then putC S n (xs ++ [y]) else .no
    | _ => .no
  | _, _, _ => .no
theorem cAppend_eq : cAppend = mAppend := by unfold cAppend mAppend; simp only [putC_eq] <;> rfl
def cExtend : Va → List Va → Sto → R Va
  | .ref n, [.ref m], S => match S[n]?, S[m]? with
    | some (.lst xs), some (.lst ys) => if xs.length + ys.length ≤ 100000 then putC S n (xs ++ ys) else .no
    | _, _ => .no
  | _, _, _ => .no
theorem cExtend_eq : cExtend = mExtend := by unfold cExtend mExtend; simp only [putC_eq] <;> rfl
def cPop : Va → List Va → Sto → R Va
  | .ref n, [], S => match S[n]? with
    | some (.lst xs) => match xs[xs.length - 1]? with
      | some y => fL xs.dropLast fun ys => setF S n (.lst ys) fun S2 => .ok y S2
      | none => .no
    | _ => .no
  | _, _, _ => .no
theorem cPop_eq : cPop = mPop := by unfold cPop mPop; simp only [fL_eq, setF_eq] <;> rfl
def cReverse : Va → List Va → Sto → R Va
  | .ref n, [], S => match S[n]? with
    | some (.lst xs) => putC S n xs.reverse
    | _ => .no
  | _, _, _ => .no
theorem cReverse_eq : cReverse = mReverse := by unfold cReverse mReverse; simp only [putC_eq] <;> rfl
def cSl (a : IE) (lo hi : IO) : IE := fun ρ S => (a ρ S).bind fun x S1 => (lo ρ S1).bind fun l S2 => (hi ρ S2).bind fun h S3 => match getL S3 x with
  | some xs => allocL S3 (cut xs l h)
  | none => .no
theorem cSl_eq (a : IE) (lo hi : IO) : cSl a lo hi = iSl a lo hi := by unfold cSl iSl; simp only [allocL_eq] <;> rfl
def cRev (a : IE) : IE := fun ρ S => (a ρ S).bind fun x S1 => match getL S1 x with
  | some xs => allocL S1 xs.reverse
  | none => .no
theorem cRev_eq (a : IE) : cRev a = iRev a := by unfold cRev iRev; simp only [allocL_eq] <;> rfl
def cDNew : IE := fun _ S => allocC S (.dic [])
theorem cDNew_eq : cDNew = iDNew := by unfold cDNew iDNew; simp only [allocC_eq] <;> rfl
def cDisp1 (a b : IE) : IE := fun ρ S => (a ρ S).bind fun x S1 => (b ρ S1).bind fun y S2 => match x with
  | .int k => allocC S2 (.dic [(k, y)])
  | _ => .no
theorem cDisp1_eq (a b : IE) : cDisp1 a b = iDisp1 a b := by unfold cDisp1 iDisp1; simp only [allocC_eq] <;> rfl
def cListRg (a : IE) : IE := fun ρ S => (a ρ S).bind fun x S1 => match x with
  | .int n => if 0 ≤ n ∧ n ≤ 100000 then allocL S1 ((rng 0 n).map .int) else .no
  | _ => .no
theorem cListRg_eq (a : IE) : cListRg a = iListRg a := by unfold cListRg iListRg; simp only [allocL_eq] <;> rfl
def setLC (o i v : Va) (S : Sto) : R Unit := match o, i with
  | .ref n, .int k => match S[n]? with
    | some (.lst xs) => match ixN xs.length k with
      | some j => setF xs j v fun ys => setF S n (.lst ys) fun S2 => .ok () S2
      | none => .no
    | _ => .no
  | _, _ => .no
theorem setLC_eq : setLC = setL := by unfold setLC setL; simp only [setF_eq] <;> rfl
def ctgSub (o i : IE) : IG
  | .one v, ρ, S => (o ρ S).bind fun x S1 => (i ρ S1).bind fun y S2 => (setLC x y v S2).bind fun _ S3 => .ok ρ S3
  | .tup _, _, _ => .no
theorem ctgSub_eq (o i : IE) : ctgSub o i = tgSub o i := by
  funext x ρ S
  cases x <;> simp only [ctgSub, tgSub, setLC_eq]
def csAugS (o i e : IE) : IS := fun ρ S => (o ρ S).toO ρ fun x S1 => (i ρ S1).toO ρ fun y S2 => (fIxL x y S2).toO ρ fun z S3 => (e ρ S3).toO ρ fun w S4 => match z, w with
  | .int a, .int b => (setLC x y (.int (a + b)) S4).toO ρ fun _ S5 => .nx ρ S5
  | _, _ => .no
theorem csAugS_eq (o i e : IE) : csAugS o i e = sAugS o i e := by unfold csAugS sAugS; simp only [setLC_eq] <;> rfl
def csAug (i : Nat) (e : IE) : IS := fun ρ S => match ρ[i]? with
  | some (some (.int x)) => (e ρ S).toO ρ fun y S1 => match y with
    | .int j => setF ρ i (some (.int (x + j))) fun ρ' => .nx ρ' S1
    | _ => .no
  | _ => .no
theorem csAug_eq (i : Nat) (e : IE) : csAug i e = sAug i e := by unfold csAug sAug; simp only [setF_eq] <;> rfl
def ctgName (j : Nat) : IG
  | .one v, ρ, S => setF ρ j (some v) fun ρ' => .ok ρ' S
  | .tup _, _, _ => .no
theorem ctgName_eq (j : Nat) : ctgName j = tgName j := by
  funext x ρ S
  cases x <;> simp only [ctgName, tgName, setF_eq]
def cLc (ii : II) (tg : IG) (tt : IT) (ie : IE) (vs : List Nat) : IE := fun ρ S => (ii ρ S).bind fun I S1 => if I.items.length ≤ 100000 then
  fL (wipeE ρ vs) fun ρ1 => (lcL I.chk tg tt ie ρ1 I.items S1).bindN fun ys S2 => allocL S2 ys else .no
theorem cLc_eq (ii : II) (tg : IG) (tt : IT) (ie : IE) (vs : List Nat) : cLc ii tg tt ie vs = iLc ii tg tt ie vs := by unfold cLc iLc; simp only [allocL_eq, fL_eq] <;> rfl
def cLcK (d : Nat) (tg : IG) (tt : IT) (ie : IE) (vs : List Nat) : IE := fun ρ S => match ρ[d]? with
  | some (some (.ref n)) => match S[n]? with
    | some (.dic es) => if es.length ≤ 100000 then fL (wipeE ρ vs) fun ρ1 => setF S n .hid fun S1 => (lcL (fun _ => true) tg tt ie ρ1 (es.map fun e => .one (.int e.1)) S1).bindN fun ys S2 => fL ys fun zs => lenF S2 (.lst zs) fun m S3 => setF S3 n (.dic es) fun S4 => if n < m then .ok (.ref m) S4 else .no else .no
    | _ => .no
  | _ => .no
theorem set_app {α : Type} : ∀ (xs ys : List α) (n : Nat) (o : α), n < xs.length → (xs ++ ys).set n o = xs.set n o ++ ys
  | [], _, _, _, h => absurd h (Nat.not_lt_zero _)
  | x :: xs, ys, 0, o, _ => rfl
  | x :: xs, ys, n + 1, o, h => by
    show x :: (xs ++ ys).set n o = x :: (xs.set n o ++ ys)
    rw [set_app xs ys n o (by simpa using h)]
theorem lx_lcK' {d : Nat} {tg tg' : IG} {vs : List Nat} {t t' : IT} {e e' : IE} (hg : tg = tg') (ht : Lx t t') (he : Lx e e') : Lx (cLcK d tg t e vs) (iLcK d tg' t' e' vs) := fun ρ S => by
  subst hg
  unfold cLcK iLcK
  cases ρ[d]? with
  | none => exact .inl rfl
  | some x => cases x with
    | none => exact .inl rfl
    | some x => cases x with
      | ref n =>
        dsimp only
        cases S[n]? with
        | none => exact .inl rfl
        | some ob => cases ob with
          | dic es =>
            dsimp only
            refine .ite ?_ (.refl _)
            rw [fL_eq, setF_eq]
            refine (le_lcL ht he _ _ _).bindN fun ys S2 => ?_
            rw [fL_eq, lenF_eq, setF_eq]
            by_cases hn : n < S2.length
            · rw [if_pos hn, set_app _ _ _ _ hn]; exact .inr rfl
            · rw [if_neg hn]; exact .inl rfl
          | _ => exact .inl rfl
      | _ => exact .inl rfl
def csFldSet (o : IE) (f : Str) (e : IE) : IS := fun ρ S => (e ρ S).toO ρ fun v S1 => (o ρ S1).toO ρ fun x S2 => match x with
  | .ref n => match S2[n]? with
    | some (.obj c fs) => if c ∈ clsL ∧ fs.length < 100 then fL (putF f v fs) fun gs => setF S2 n (.obj c gs) fun S3 => .nx ρ S3 else .no
    | _ => .no
  | _ => .no
theorem csFldSet_eq (o : IE) (f : Str) (e : IE) : csFldSet o f e = sFldSet o f e := by unfold csFldSet sFldSet; simp only [fL_eq, setF_eq] <;> rfl
def csDSet (d k e : IE) : IS := fun ρ S => (e ρ S).toO ρ fun v S1 => (d ρ S1).toO ρ fun x S2 => (k ρ S2).toO ρ fun y S3 => match x, y with
  | .ref n, .int i => match S3[n]? with
    | some (.dic es) => if es.length < 100000 then fL (putD es i v) fun fs => setF S3 n (.dic fs) fun S4 => .nx ρ S4 else .no
    | _ => .no
  | _, _ => .no
theorem csDSet_eq (d k e : IE) : csDSet d k e = sDSet d k e := by unfold csDSet sDSet; simp only [fL_eq, setF_eq] <;> rfl
def cMake (c : Str) (f : Fn) (a : IA) : IE := fun ρ S => (a ρ S).bind fun xs S1 => lenF S1 (.obj c []) fun n S2 => (f (.ref n :: xs) S2).bind fun v S3 => match v with
  | .non => .ok (.ref n) S3
  | _ => .no
theorem cMake_eq (c : Str) (f : Fn) (a : IA) : cMake c f a = iMake c f a := by unfold cMake iMake; simp only [lenF_eq] <;> rfl
def cLam (i : Nat) : IE := fun _ S => allocC S (.clo i none)
theorem cLam_eq (i : Nat) : cLam i = iLam i := by unfold cLam iLam; simp only [allocC_eq] <;> rfl
def cLam0 (i : Nat) : IE := fun _ S => allocC S (.clo i (some []))
theorem cLam0_eq (i : Nat) : cLam0 i = iLam0 i := by unfold cLam0 iLam0; simp only [allocC_eq] <;> rfl
def openC : Sto → Sto → Sto
  | x :: xs, y :: ys => (match x with | .clo i v => .clo i v | _ => hideC y) :: openC xs ys
  | [], ys => ys.map hideC
  | _, [] => []
theorem openC_eq (S1 S3 : Sto) : openC S1 S3 = openS S1 S3 := by
  apply List.ext_getElem?
  intro n
  have : ∀ (S1 S3 : Sto) (n : Nat), (openC S1 S3)[n]? = (S3[n]?).map (openO S1 n) := by
    intro S1
    induction S1 with
    | nil =>
      intro S3 n
      have : openC [] S3 = S3.map hideC := by cases S3 <;> rfl
      rw [this, List.getElem?_map]; rfl
    | cons x xs ih =>
      intro S3 n
      cases S3 with
      | nil => simp [openC]
      | cons y ys =>
        cases n with
        | zero => simp only [openC, List.getElem?_cons_zero, Option.map_some, openO]; cases x <;> rfl
        | succ n => simp only [openC, List.getElem?_cons_succ]; rw [ih]; rfl
  rw [this]; unfold openS; rw [List.getElem?_mapIdx]
def cCallW (caps : List (Nat × List Nat)) (f : Fn) (a : IA) : IE := fun ρ S => (a ρ S).bind fun xs S1 => fL (S1.map (closeO caps ρ)) fun S2 => match f xs S2 with
  | .ok v S3 => fL (openC S1 S3) fun S4 => .ok v S4
  | .ex c S3 => fL (openC S1 S3) fun S4 => .ex c S4
  | .no => .no
theorem cCallW_eq (caps : List (Nat × List Nat)) (f : Fn) (a : IA) : cCallW caps f a = iCallW caps f a := by unfold cCallW iCallW; simp only [fL_eq, openC_eq] <;> rfl
def cLcW (caps : List (Nat × List Nat)) (ii : II) (tg : IG) (tt : IT) (ie : IE) (vs : List Nat) : IE := fun ρ S => (ii ρ S).bind fun I S1 => if I.items.length ≤ 100000 then
  fL (S1.map (closeO caps ρ)) fun S0 => fL (wipeE ρ vs) fun ρ1 => (lcL I.chk tg tt ie ρ1 I.items S0).bindN fun ys S2 => fL (openC S1 S2) fun S3 => allocL S3 ys else .no
theorem cLcW_eq (caps : List (Nat × List Nat)) (ii : II) (tg : IG) (tt : IT) (ie : IE) (vs : List Nat) : cLcW caps ii tg tt ie vs = iLcW caps ii tg tt ie vs := by unfold cLcW iLcW; simp only [allocL_eq, fL_eq, openC_eq] <;> rfl
def cmkFnW (p n : Nat) (body : IS) : Fn := fun xs S => match mkFn p n body xs S with
  | .ok v S1 => fL (S1.map hideO) fun S2 => .ok v S2
  | .ex c S1 => fL (S1.map hideO) fun S2 => .ex c S2
  | .no => .no
theorem cmkFnW_eq (p n : Nat) (body : IS) : cmkFnW p n body = mkFnW p n body := by
  funext xs S
  unfold cmkFnW mkFnW
  cases mkFn p n body xs S <;> simp only [fL_eq, R.mapS]
theorem lf_gc {F F' : Fn} (h : Lf F F') : Lf (gcF F) (gcF F') := fun xs S => by
  unfold gcF
  dsimp only
  refine .ite ?_ (.refl _)
  split
  · rename_i xs' S' _ _
    rcases h xs' S' with e | e
    · rw [e]; exact .inl rfl
    · rw [e]; exact .refl _
  · exact .refl _
section
variable {a a' b b' c c' o o' e e' : IE} {t t' u u' : IT} {i i' j j' : IS} {A A' : IA} {F F' : Fn}
theorem lx_lst' (h : Lx A A') : Lx (cLst A) (iLst A') := by rw [cLst_eq]; exact lx_lst h
theorem lx_tup' (h : Lx A A') : Lx (cTup A) (IL.iTup A') := by rw [cTup_eq]; exact lx_tup h
theorem lo_add' : Lo cAdd fAdd := by rw [cAdd_eq]; exact .refl _
theorem lo_mul' : Lo cMulF fMul := by rw [cMulF_eq]; exact lo_mul
theorem lf_list' : Lf cList fList := by rw [cList_eq]; exact .refl _
theorem lf_sorted' : Lf cSortedF fSorted := by rw [cSortedF_eq]; exact lf_sorted
theorem lf_sortedD' : Lf cSortedDF fSortedD := by rw [cSortedDF_eq]; exact lf_sortedD
theorem lf_sortedSet' : Lf cSortedSetF fSortedSet := by rw [cSortedSetF_eq]; exact lf_sortedSet
theorem lo_append' : Lo cAppend mAppend := by rw [cAppend_eq]; exact .refl _
theorem lo_extend' : Lo cExtend mExtend := by rw [cExtend_eq]; exact .refl _
theorem lo_pop' : Lo cPop mPop := by rw [cPop_eq]; exact .refl _
theorem lo_reverse' : Lo cReverse mReverse := by rw [cReverse_eq]; exact .refl _
theorem lx_sl' {lo lo' hi hi' : IO} (ha : Lx a a') (hl : Lx lo lo') (hh : Lx hi hi') : Lx (cSl a lo hi) (iSl a' lo' hi') := by rw [cSl_eq]; exact lx_sl ha hl hh
theorem lx_rev' (ha : Lx a a') : Lx (cRev a) (iRev a') := by rw [cRev_eq]; exact lx_rev ha
theorem lx_dnew' : Lx cDNew iDNew := by rw [cDNew_eq]; exact .refl _
theorem lx_disp' (ha : Lx a a') (hb : Lx b b') : Lx (cDisp1 a b) (iDisp1 a' b') := by rw [cDisp1_eq]; exact fun ρ S => (ha ρ S).bind fun x S1 => (hb ρ S1).bind fun y S2 => .refl _
theorem lx_listRg' (ha : Lx a a') : Lx (cListRg a) (iListRg a') := by rw [cListRg_eq]; exact lx_listRg ha
theorem lx_lc' {ii ii' : II} {tg tg' : IG} {vs : List Nat} (hi : Lx ii ii') (hg : tg = tg') (ht : Lx t t') (he : Lx e e') : Lx (cLc ii tg t e vs) (iLc ii' tg' t' e' vs) := by subst hg; rw [cLc_eq]; exact lx_lc hi ht he
theorem lx_lcW' {caps : List (Nat × List Nat)} {ii ii' : II} {tg tg' : IG} {vs : List Nat} (hi : Lx ii ii') (hg : tg = tg') (ht : Lx t t') (he : Lx e e') : Lx (cLcW caps ii tg t e vs) (iLcW caps ii' tg' t' e' vs) := by subst hg; rw [cLcW_eq]; exact lx_lcW hi ht he
theorem lx_callW' {caps : List (Nat × List Nat)} (hf : Lf F F') (ha : Lx A A') : Lx (cCallW caps F A) (iCallW caps F' A') := by rw [cCallW_eq]; exact lx_callW hf ha
theorem lx_make' {s : Str} (hf : Lf F F') (ha : Lx A A') : Lx (cMake s F A) (iMake s F' A') := by rw [cMake_eq]; exact lx_make hf ha
theorem lx_lam' {n : Nat} : Lx (cLam n) (iLam n) := by rw [cLam_eq]; exact .refl _
theorem lx_lam0' {n : Nat} : Lx (cLam0 n) (iLam0 n) := by rw [cLam0_eq]; exact .refl _
theorem lf_mkW' {p n : Nat} (h : Ls i i') : Lf (cmkFnW p n i) (mkFnW p n i') := by rw [cmkFnW_eq]; exact lf_mkW h
theorem ls_asg' {tg tg' : IG} (ha : Lx a a') (hg : tg = tg') : Ls (sAsg a tg) (sAsg a' tg') := by subst hg; exact ls_asg ha
theorem ls_for' {ii ii' : II} {tg tg' : IG} (h : Lx ii ii') (hg : tg = tg') (hi : Ls i i') : Ls (sFor ii tg i) (sFor ii' tg' i') := by subst hg; exact ls_for h hi
theorem ls_fldSet' {s : Str} (ho : Lx o o') (he : Lx e e') : Ls (csFldSet o s e) (sFldSet o' s e') := by rw [csFldSet_eq]; exact ls_fldSet ho he
theorem ls_dset' (ho : Lx o o') (ha : Lx a a') (he : Lx e e') : Ls (csDSet o a e) (sDSet o' a' e') := by rw [csDSet_eq]; exact ls_dset ho ha he
theorem ls_aug' {n : Nat} (ha : Lx a a') : Ls (csAug n a) (sAug n a') := by rw [csAug_eq]; exact ls_aug ha
theorem ls_augS' (ho : Lx o o') (ha : Lx a a') (he : Lx e e') : Ls (csAugS o a e) (sAugS o' a' e') := by rw [csAugS_eq]; exact ls_augS ho ha he
theorem tg_name' {j : Nat} : ctgName j = tgName j := ctgName_eq j
theorem tg_sub' : ctgSub o a = tgSub o a := ctgSub_eq o a
theorem tg_tup' {n : Nat} {ts ts' : List IG} (h : ts = ts') : tgTupN n ts = tgTupN n ts' := by rw [h]
theorem tg_cons' {t t' : IG} {ts ts' : List IG} (h : t = t') (hs : ts = ts') : t :: ts = t' :: ts' := by rw [h, hs]
theorem tg_nil' : ([] : List IG) = [] := rfl
end
end IL

end
section
set_option Elab.async false
set_option linter.all false
set_option maxRecDepth 100000
set_option maxHeartbeats 4000000
namespace IL
open PySem L2
def c_is_number : Fn := gcF (mkFn 2 2 (sRet (iAndV (iCB fIsiB (iCons (iVar 0) (iCons (iC (.ty "int")) iNil))) (iAndV (iNotV (iCB fIsiB (iCons (iVar 0) (iCons (iC (.ty "bool")) iNil)))) (iOp fGeB (iVar 0) (iVar 1))))))
theorem le_i_is_number : Lf c_is_number i_is_number := by
  unfold c_is_number i_is_number; repeat' (with_reducible first | exact Lx.refl _ | exact Ls.refl _ | exact Lf.refl _ | exact Lo.refl _ | exact lo_lt | exact lo_le | exact lo_gt | exact lo_ge | exact lo_mul' | exact lo_add' | exact lf_sorted' | exact lf_sortedD' | exact lf_sortedSet' | exact lf_list' | exact lo_append' | exact lo_extend' | exact lo_pop' | exact lo_reverse' | exact tg_name' | exact tg_sub' | exact tg_nil' | refine tg_tup' ?_ | refine tg_cons' ?_ ?_ | refine ls_seq ?_ ?_ | refine ls_asg' ?_ ?_ | refine ls_if ?_ ?_ ?_ | refine ls_ret ?_ | refine ls_expr ?_ | refine ls_for' ?_ ?_ ?_ | refine ls_while ?_ ?_ | refine ls_par ?_ | refine ls_par3 ?_ | refine ls_try ?_ ?_ | refine ls_fldSet' ?_ ?_ | refine ls_dset' ?_ ?_ ?_ | refine ls_aug' ?_ | refine ls_augS' ?_ ?_ ?_ | refine lx_op ?_ ?_ ?_ | refine lx_un ?_ | refine lx_cons ?_ ?_ | refine lx_lst' ?_ | refine lx_tup' ?_ | refine lx_cb ?_ ?_ | refine lx_B ?_ | refine lx_and ?_ ?_ | refine lx_or ?_ ?_ | refine lx_not ?_ | refine lx_andV ?_ ?_ | refine lx_orV ?_ ?_ | refine lx_notV ?_ | refine lx_if ?_ ?_ ?_ | refine lx_chain ?_ ?_ ?_ ?_ ?_ | refine lx_call ?_ ?_ | refine lx_make' ?_ ?_ | refine lx_fld ?_ | refine lx_bm ?_ ?_ ?_ | refine lx_meth ?_ ?_ ?_ | refine lx_is ?_ ?_ ?_ | refine lx_sl' ?_ ?_ ?_ | refine lx_part ?_ | refine lx_rev' ?_ | exact lx_dnew' | refine lx_disp' ?_ ?_ | refine lx_listRg' ?_ | refine lx_dget ?_ ?_ | refine lx_din ?_ ?_ | refine lx_itList ?_ | refine lx_itTup ?_ | refine lx_itRng ?_ | refine lx_itEnum ?_ | refine lx_itZip ?_ ?_ | refine lx_lc' ?_ ?_ ?_ ?_ | refine lx_lcK' ?_ ?_ ?_ | refine lx_lcW' ?_ ?_ ?_ ?_ | refine lx_callW' ?_ ?_ | refine lx_callV ?_ ?_ | exact lx_lam' | exact lx_lam0' | exact lt_nil' | refine lt_cons' ?_ ?_ | refine lf_mk ?_ | refine lf_gc ?_ | refine lf_mkW' ?_ | refine lf_lam ?_ | exact rfl)
def c_is_task : Fn := gcF (mkFn 2 3 (sSeq (sIf (iOr (iNot (iB (iCB fIsiB (iCons (iVar 0) (iCons (iC (.ty "tuple")) iNil))))) (iOr (iB (iOp fNe (iCB fLen (iCons (iVar 0) iNil)) (iC (.int 2)))) (iNot (iB (iCB fAll (iCons (cLc (itTup (iVar 0)) (ctgName 2) iYes (iCall c_is_number (iCons (iVar 2) (iCons (iC (.int 0)) iNil))) [2]) iNil)))))) (sRet (iC (.bl false))) sNext)
  (sRet (iChain fLtB fLtB (iOp fIx (iVar 0) (iC (.int 0))) (iOp fIx (iVar 0) (iC (.int 1))) (iVar 1)))))
theorem le_i_is_task : Lf c_is_task i_is_task := by
  unfold c_is_task i_is_task; repeat' (with_reducible first | exact Lx.refl _ | exact Ls.refl _ | exact Lf.refl _ | exact Lo.refl _ | exact le_i_is_number | exact lo_lt | exact lo_le | exact lo_gt | exact lo_ge | exact lo_mul' | exact lo_add' | exact lf_sorted' | exact lf_sortedD' | exact lf_sortedSet' | exact lf_list' | exact lo_append' | exact lo_extend' | exact lo_pop' | exact lo_reverse' | exact tg_name' | exact tg_sub' | exact tg_nil' | refine tg_tup' ?_ | refine tg_cons' ?_ ?_ | refine ls_seq ?_ ?_ | refine ls_asg' ?_ ?_ | refine ls_if ?_ ?_ ?_ | refine ls_ret ?_ | refine ls_expr ?_ | refine ls_for' ?_ ?_ ?_ | refine ls_while ?_ ?_ | refine ls_par ?_ | refine ls_par3 ?_ | refine ls_try ?_ ?_ | refine ls_fldSet' ?_ ?_ | refine ls_dset' ?_ ?_ ?_ | refine ls_aug' ?_ | refine ls_augS' ?_ ?_ ?_ | refine lx_op ?_ ?_ ?_ | refine lx_un ?_ | refine lx_cons ?_ ?_ | refine lx_lst' ?_ | refine lx_tup' ?_ | refine lx_cb ?_ ?_ | refine lx_B ?_ | refine lx_and ?_ ?_ | refine lx_or ?_ ?_ | refine lx_not ?_ | refine lx_andV ?_ ?_ | refine lx_orV ?_ ?_ | refine lx_notV ?_ | refine lx_if ?_ ?_ ?_ | refine lx_chain ?_ ?_ ?_ ?_ ?_ | refine lx_call ?_ ?_ | refine lx_make' ?_ ?_ | refine lx_fld ?_ | refine lx_bm ?_ ?_ ?_ | refine lx_meth ?_ ?_ ?_ | refine lx_is ?_ ?_ ?_ | refine lx_sl' ?_ ?_ ?_ | refine lx_part ?_ | refine lx_rev' ?_ | exact lx_dnew' | refine lx_disp' ?_ ?_ | refine lx_listRg' ?_ | refine lx_dget ?_ ?_ | refine lx_din ?_ ?_ | refine lx_itList ?_ | refine lx_itTup ?_ | refine lx_itRng ?_ | refine lx_itEnum ?_ | refine lx_itZip ?_ ?_ | refine lx_lc' ?_ ?_ ?_ ?_ | refine lx_lcK' ?_ ?_ ?_ | refine lx_lcW' ?_ ?_ ?_ ?_ | refine lx_callW' ?_ ?_ | refine lx_callV ?_ ?_ | exact lx_lam' | exact lx_lam0' | exact lt_nil' | refine lt_cons' ?_ ?_ | refine lf_mk ?_ | refine lf_gc ?_ | refine lf_mkW' ?_ | refine lf_lam ?_ | exact rfl)
def c_check_tasks : Fn := gcF (mkFn 2 3 (sSeq (sIf (iOr (iNot (iB (iCall c_is_number (iCons (iVar 0) (iCons (iC (.int 1)) iNil))))) (iB (iOp fGtB (iVar 0) (iC (.int 60))))) (sRaise "BadPeople") sNext)
  (sIf (iOr (iNot (iB (iCB fIsiB (iCons (iVar 1) (iCons (iC (.ty "list")) iNil))))) (iNot (iB (iCB fAll (iCons (cLc (itList (iVar 1)) (ctgName 2) iYes (iCall c_is_task (iCons (iVar 2) (iCons (iVar 0) iNil))) [2]) iNil))))) (sRaise "BadTasks") sNext)))
theorem le_i_check_tasks : Lf c_check_tasks i_check_tasks := by
  unfold c_check_tasks i_check_tasks; repeat' (with_reducible first | exact Lx.refl _ | exact Ls.refl _ | exact Lf.refl _ | exact Lo.refl _ | exact le_i_is_number | exact le_i_is_task | exact lo_lt | exact lo_le | exact lo_gt | exact lo_ge | exact lo_mul' | exact lo_add' | exact lf_sorted' | exact lf_sortedD' | exact lf_sortedSet' | exact lf_list' | exact lo_append' | exact lo_extend' | exact lo_pop' | exact lo_reverse' | exact tg_name' | exact tg_sub' | exact tg_nil' | refine tg_tup' ?_ | refine tg_cons' ?_ ?_ | refine ls_seq ?_ ?_ | refine ls_asg' ?_ ?_ | refine ls_if ?_ ?_ ?_ | refine ls_ret ?_ | refine ls_expr ?_ | refine ls_for' ?_ ?_ ?_ | refine ls_while ?_ ?_ | refine ls_par ?_ | refine ls_par3 ?_ | refine ls_try ?_ ?_ | refine ls_fldSet' ?_ ?_ | refine ls_dset' ?_ ?_ ?_ | refine ls_aug' ?_ | refine ls_augS' ?_ ?_ ?_ | refine lx_op ?_ ?_ ?_ | refine lx_un ?_ | refine lx_cons ?_ ?_ | refine lx_lst' ?_ | refine lx_tup' ?_ | refine lx_cb ?_ ?_ | refine lx_B ?_ | refine lx_and ?_ ?_ | refine lx_or ?_ ?_ | refine lx_not ?_ | refine lx_andV ?_ ?_ | refine lx_orV ?_ ?_ | refine lx_notV ?_ | refine lx_if ?_ ?_ ?_ | refine lx_chain ?_ ?_ ?_ ?_ ?_ | refine lx_call ?_ ?_ | refine lx_make' ?_ ?_ | refine lx_fld ?_ | refine lx_bm ?_ ?_ ?_ | refine lx_meth ?_ ?_ ?_ | refine lx_is ?_ ?_ ?_ | refine lx_sl' ?_ ?_ ?_ | refine lx_part ?_ | refine lx_rev' ?_ | exact lx_dnew' | refine lx_disp' ?_ ?_ | refine lx_listRg' ?_ | refine lx_dget ?_ ?_ | refine lx_din ?_ ?_ | refine lx_itList ?_ | refine lx_itTup ?_ | refine lx_itRng ?_ | refine lx_itEnum ?_ | refine lx_itZip ?_ ?_ | refine lx_lc' ?_ ?_ ?_ ?_ | refine lx_lcK' ?_ ?_ ?_ | refine lx_lcW' ?_ ?_ ?_ ?_ | refine lx_callW' ?_ ?_ | refine lx_callV ?_ ?_ | exact lx_lam' | exact lx_lam0' | exact lt_nil' | refine lt_cons' ?_ ?_ | refine lf_mk ?_ | refine lf_gc ?_ | refine lf_mkW' ?_ | refine lf_lam ?_ | exact rfl)
def c_check_limits : Fn := gcF (mkFn 2 3 (sIf (iOr (iNot (iB (iCB fIsiB (iCons (iVar 1) (iCons (iC (.ty "list")) iNil))))) (iOr (iB (iOp fNe (iCB fLen (iCons (iVar 1) iNil)) (iVar 0))) (iNot (iB (iCB fAll (iCons (cLc (itList (iVar 1)) (ctgName 2) iYes (iCall c_is_number (iCons (iVar 2) (iCons (iC (.int 0)) iNil))) [2]) iNil)))))) (sRaise "BadLimits") sNext))
theorem le_i_check_limits : Lf c_check_limits i_check_limits := by
  unfold c_check_limits i_check_limits; repeat' (with_reducible first | exact Lx.refl _ | exact Ls.refl _ | exact Lf.refl _ | exact Lo.refl _ | exact le_i_is_number | exact lo_lt | exact lo_le | exact lo_gt | exact lo_ge | exact lo_mul' | exact lo_add' | exact lf_sorted' | exact lf_sortedD' | exact lf_sortedSet' | exact lf_list' | exact lo_append' | exact lo_extend' | exact lo_pop' | exact lo_reverse' | exact tg_name' | exact tg_sub' | exact tg_nil' | refine tg_tup' ?_ | refine tg_cons' ?_ ?_ | refine ls_seq ?_ ?_ | refine ls_asg' ?_ ?_ | refine ls_if ?_ ?_ ?_ | refine ls_ret ?_ | refine ls_expr ?_ | refine ls_for' ?_ ?_ ?_ | refine ls_while ?_ ?_ | refine ls_par ?_ | refine ls_par3 ?_ | refine ls_try ?_ ?_ | refine ls_fldSet' ?_ ?_ | refine ls_dset' ?_ ?_ ?_ | refine ls_aug' ?_ | refine ls_augS' ?_ ?_ ?_ | refine lx_op ?_ ?_ ?_ | refine lx_un ?_ | refine lx_cons ?_ ?_ | refine lx_lst' ?_ | refine lx_tup' ?_ | refine lx_cb ?_ ?_ | refine lx_B ?_ | refine lx_and ?_ ?_ | refine lx_or ?_ ?_ | refine lx_not ?_ | refine lx_andV ?_ ?_ | refine lx_orV ?_ ?_ | refine lx_notV ?_ | refine lx_if ?_ ?_ ?_ | refine lx_chain ?_ ?_ ?_ ?_ ?_ | refine lx_call ?_ ?_ | refine lx_make' ?_ ?_ | refine lx_fld ?_ | refine lx_bm ?_ ?_ ?_ | refine lx_meth ?_ ?_ ?_ | refine lx_is ?_ ?_ ?_ | refine lx_sl' ?_ ?_ ?_ | refine lx_part ?_ | refine lx_rev' ?_ | exact lx_dnew' | refine lx_disp' ?_ ?_ | refine lx_listRg' ?_ | refine lx_dget ?_ ?_ | refine lx_din ?_ ?_ | refine lx_itList ?_ | refine lx_itTup ?_ | refine lx_itRng ?_ | refine lx_itEnum ?_ | refine lx_itZip ?_ ?_ | refine lx_lc' ?_ ?_ ?_ ?_ | refine lx_lcK' ?_ ?_ ?_ | refine lx_lcW' ?_ ?_ ?_ ?_ | refine lx_callW' ?_ ?_ | refine lx_callV ?_ ?_ | exact lx_lam' | exact lx_lam0' | exact lt_nil' | refine lt_cons' ?_ ?_ | refine lf_mk ?_ | refine lf_gc ?_ | refine lf_mkW' ?_ | refine lf_lam ?_ | exact rfl)
def c_is_sharing : Fn := gcF (mkFn 2 5 (sSeq (sIf (iOr (iNot (iB (iCB fIsiB (iCons (iVar 1) (iCons (iC (.ty "list")) iNil))))) (iOr (iB (iOp fNe (iCB fLen (iCons (iVar 1) iNil)) (iCB fLen (iCons (iVar 0) iNil)))) (iNot (iB (iCB fAll (iCons (cLc (itList (iVar 1)) (ctgName 2) iYes (iCall c_is_number (iCons (iVar 2) (iCons (iC (.int 0)) iNil))) [2]) iNil)))))) (sRet (iC (.bl false))) sNext)
  (sRet (iCB fAll (iCons (cLc (itZip (iVar 0) (iVar 1)) (tgTupN 2 [(ctgName 3), (ctgName 4)]) iYes (iOp (fIn false) (iVar 4) (iVar 3)) [3, 4]) iNil)))))
theorem le_i_is_sharing : Lf c_is_sharing i_is_sharing := by
  unfold c_is_sharing i_is_sharing; repeat' (with_reducible first | exact Lx.refl _ | exact Ls.refl _ | exact Lf.refl _ | exact Lo.refl _ | exact le_i_is_number | exact lo_lt | exact lo_le | exact lo_gt | exact lo_ge | exact lo_mul' | exact lo_add' | exact lf_sorted' | exact lf_sortedD' | exact lf_sortedSet' | exact lf_list' | exact lo_append' | exact lo_extend' | exact lo_pop' | exact lo_reverse' | exact tg_name' | exact tg_sub' | exact tg_nil' | refine tg_tup' ?_ | refine tg_cons' ?_ ?_ | refine ls_seq ?_ ?_ | refine ls_asg' ?_ ?_ | refine ls_if ?_ ?_ ?_ | refine ls_ret ?_ | refine ls_expr ?_ | refine ls_for' ?_ ?_ ?_ | refine ls_while ?_ ?_ | refine ls_par ?_ | refine ls_par3 ?_ | refine ls_try ?_ ?_ | refine ls_fldSet' ?_ ?_ | refine ls_dset' ?_ ?_ ?_ | refine ls_aug' ?_ | refine ls_augS' ?_ ?_ ?_ | refine lx_op ?_ ?_ ?_ | refine lx_un ?_ | refine lx_cons ?_ ?_ | refine lx_lst' ?_ | refine lx_tup' ?_ | refine lx_cb ?_ ?_ | refine lx_B ?_ | refine lx_and ?_ ?_ | refine lx_or ?_ ?_ | refine lx_not ?_ | refine lx_andV ?_ ?_ | refine lx_orV ?_ ?_ | refine lx_notV ?_ | refine lx_if ?_ ?_ ?_ | refine lx_chain ?_ ?_ ?_ ?_ ?_ | refine lx_call ?_ ?_ | refine lx_make' ?_ ?_ | refine lx_fld ?_ | refine lx_bm ?_ ?_ ?_ | refine lx_meth ?_ ?_ ?_ | refine lx_is ?_ ?_ ?_ | refine lx_sl' ?_ ?_ ?_ | refine lx_part ?_ | refine lx_rev' ?_ | exact lx_dnew' | refine lx_disp' ?_ ?_ | refine lx_listRg' ?_ | refine lx_dget ?_ ?_ | refine lx_din ?_ ?_ | refine lx_itList ?_ | refine lx_itTup ?_ | refine lx_itRng ?_ | refine lx_itEnum ?_ | refine lx_itZip ?_ ?_ | refine lx_lc' ?_ ?_ ?_ ?_ | refine lx_lcK' ?_ ?_ ?_ | refine lx_lcW' ?_ ?_ ?_ ?_ | refine lx_callW' ?_ ?_ | refine lx_callV ?_ ?_ | exact lx_lam' | exact lx_lam0' | exact lt_nil' | refine lt_cons' ?_ ?_ | refine lf_mk ?_ | refine lf_gc ?_ | refine lf_mkW' ?_ | refine lf_lam ?_ | exact rfl)
def c_check_sharing : Fn := gcF (mkFn 2 2 (sIf (iNot (iB (iCall c_is_sharing (iCons (iVar 0) (iCons (iVar 1) iNil))))) (sRaise "BadSharing") sNext))
theorem le_i_check_sharing : Lf c_check_sharing i_check_sharing := by
  unfold c_check_sharing i_check_sharing; repeat' (with_reducible first | exact Lx.refl _ | exact Ls.refl _ | exact Lf.refl _ | exact Lo.refl _ | exact le_i_is_sharing | exact lo_lt | exact lo_le | exact lo_gt | exact lo_ge | exact lo_mul' | exact lo_add' | exact lf_sorted' | exact lf_sortedD' | exact lf_sortedSet' | exact lf_list' | exact lo_append' | exact lo_extend' | exact lo_pop' | exact lo_reverse' | exact tg_name' | exact tg_sub' | exact tg_nil' | refine tg_tup' ?_ | refine tg_cons' ?_ ?_ | refine ls_seq ?_ ?_ | refine ls_asg' ?_ ?_ | refine ls_if ?_ ?_ ?_ | refine ls_ret ?_ | refine ls_expr ?_ | refine ls_for' ?_ ?_ ?_ | refine ls_while ?_ ?_ | refine ls_par ?_ | refine ls_par3 ?_ | refine ls_try ?_ ?_ | refine ls_fldSet' ?_ ?_ | refine ls_dset' ?_ ?_ ?_ | refine ls_aug' ?_ | refine ls_augS' ?_ ?_ ?_ | refine lx_op ?_ ?_ ?_ | refine lx_un ?_ | refine lx_cons ?_ ?_ | refine lx_lst' ?_ | refine lx_tup' ?_ | refine lx_cb ?_ ?_ | refine lx_B ?_ | refine lx_and ?_ ?_ | refine lx_or ?_ ?_ | refine lx_not ?_ | refine lx_andV ?_ ?_ | refine lx_orV ?_ ?_ | refine lx_notV ?_ | refine lx_if ?_ ?_ ?_ | refine lx_chain ?_ ?_ ?_ ?_ ?_ | refine lx_call ?_ ?_ | refine lx_make' ?_ ?_ | refine lx_fld ?_ | refine lx_bm ?_ ?_ ?_ | refine lx_meth ?_ ?_ ?_ | refine lx_is ?_ ?_ ?_ | refine lx_sl' ?_ ?_ ?_ | refine lx_part ?_ | refine lx_rev' ?_ | exact lx_dnew' | refine lx_disp' ?_ ?_ | refine lx_listRg' ?_ | refine lx_dget ?_ ?_ | refine lx_din ?_ ?_ | refine lx_itList ?_ | refine lx_itTup ?_ | refine lx_itRng ?_ | refine lx_itEnum ?_ | refine lx_itZip ?_ ?_ | refine lx_lc' ?_ ?_ ?_ ?_ | refine lx_lcK' ?_ ?_ ?_ | refine lx_lcW' ?_ ?_ ?_ ?_ | refine lx_callW' ?_ ?_ | refine lx_callV ?_ ?_ | exact lx_lam' | exact lx_lam0' | exact lt_nil' | refine lt_cons' ?_ ?_ | refine lf_mk ?_ | refine lf_gc ?_ | refine lf_mkW' ?_ | refine lf_lam ?_ | exact rfl)
def c_loads_of : Fn := gcF (mkFn 2 4 (sSeq (sAsg (iOp cMulF (cLst (iCons (iC (.int 0)) iNil)) (iVar 0)) (ctgName 2))
  (sSeq (sFor (itList (iVar 1)) (ctgName 3) (csAugS (iVar 2) (iVar 3) (iC (.int 1))))
  (sRet (iVar 2)))))
theorem le_i_loads_of : Lf c_loads_of i_loads_of := by
  unfold c_loads_of i_loads_of; repeat' (with_reducible first | exact Lx.refl _ | exact Ls.refl _ | exact Lf.refl _ | exact Lo.refl _ | exact lo_lt | exact lo_le | exact lo_gt | exact lo_ge | exact lo_mul' | exact lo_add' | exact lf_sorted' | exact lf_sortedD' | exact lf_sortedSet' | exact lf_list' | exact lo_append' | exact lo_extend' | exact lo_pop' | exact lo_reverse' | exact tg_name' | exact tg_sub' | exact tg_nil' | refine tg_tup' ?_ | refine tg_cons' ?_ ?_ | refine ls_seq ?_ ?_ | refine ls_asg' ?_ ?_ | refine ls_if ?_ ?_ ?_ | refine ls_ret ?_ | refine ls_expr ?_ | refine ls_for' ?_ ?_ ?_ | refine ls_while ?_ ?_ | refine ls_par ?_ | refine ls_par3 ?_ | refine ls_try ?_ ?_ | refine ls_fldSet' ?_ ?_ | refine ls_dset' ?_ ?_ ?_ | refine ls_aug' ?_ | refine ls_augS' ?_ ?_ ?_ | refine lx_op ?_ ?_ ?_ | refine lx_un ?_ | refine lx_cons ?_ ?_ | refine lx_lst' ?_ | refine lx_tup' ?_ | refine lx_cb ?_ ?_ | refine lx_B ?_ | refine lx_and ?_ ?_ | refine lx_or ?_ ?_ | refine lx_not ?_ | refine lx_andV ?_ ?_ | refine lx_orV ?_ ?_ | refine lx_notV ?_ | refine lx_if ?_ ?_ ?_ | refine lx_chain ?_ ?_ ?_ ?_ ?_ | refine lx_call ?_ ?_ | refine lx_make' ?_ ?_ | refine lx_fld ?_ | refine lx_bm ?_ ?_ ?_ | refine lx_meth ?_ ?_ ?_ | refine lx_is ?_ ?_ ?_ | refine lx_sl' ?_ ?_ ?_ | refine lx_part ?_ | refine lx_rev' ?_ | exact lx_dnew' | refine lx_disp' ?_ ?_ | refine lx_listRg' ?_ | refine lx_dget ?_ ?_ | refine lx_din ?_ ?_ | refine lx_itList ?_ | refine lx_itTup ?_ | refine lx_itRng ?_ | refine lx_itEnum ?_ | refine lx_itZip ?_ ?_ | refine lx_lc' ?_ ?_ ?_ ?_ | refine lx_lcK' ?_ ?_ ?_ | refine lx_lcW' ?_ ?_ ?_ ?_ | refine lx_callW' ?_ ?_ | refine lx_callV ?_ ?_ | exact lx_lam' | exact lx_lam0' | exact lt_nil' | refine lt_cons' ?_ ?_ | refine lf_mk ?_ | refine lf_gc ?_ | refine lf_mkW' ?_ | refine lf_lam ?_ | exact rfl)
def c_loads : Fn := gcF (mkFn 3 3 (sSeq (sExpr (iCall c_check_tasks (iCons (iVar 0) (iCons (iVar 1) iNil))))
  (sSeq (sExpr (iCall c_check_sharing (iCons (iVar 1) (iCons (iVar 2) iNil))))
  (sRet (iCall c_loads_of (iCons (iVar 0) (iCons (iVar 2) iNil)))))))
theorem le_i_loads : Lf c_loads i_loads := by
  unfold c_loads i_loads; repeat' (with_reducible first | exact Lx.refl _ | exact Ls.refl _ | exact Lf.refl _ | exact Lo.refl _ | exact le_i_check_sharing | exact le_i_check_tasks | exact le_i_loads_of | exact lo_lt | exact lo_le | exact lo_gt | exact lo_ge | exact lo_mul' | exact lo_add' | exact lf_sorted' | exact lf_sortedD' | exact lf_sortedSet' | exact lf_list' | exact lo_append' | exact lo_extend' | exact lo_pop' | exact lo_reverse' | exact tg_name' | exact tg_sub' | exact tg_nil' | refine tg_tup' ?_ | refine tg_cons' ?_ ?_ | refine ls_seq ?_ ?_ | refine ls_asg' ?_ ?_ | refine ls_if ?_ ?_ ?_ | refine ls_ret ?_ | refine ls_expr ?_ | refine ls_for' ?_ ?_ ?_ | refine ls_while ?_ ?_ | refine ls_par ?_ | refine ls_par3 ?_ | refine ls_try ?_ ?_ | refine ls_fldSet' ?_ ?_ | refine ls_dset' ?_ ?_ ?_ | refine ls_aug' ?_ | refine ls_augS' ?_ ?_ ?_ | refine lx_op ?_ ?_ ?_ | refine lx_un ?_ | refine lx_cons ?_ ?_ | refine lx_lst' ?_ | refine lx_tup' ?_ | refine lx_cb ?_ ?_ | refine lx_B ?_ | refine lx_and ?_ ?_ | refine lx_or ?_ ?_ | refine lx_not ?_ | refine lx_andV ?_ ?_ | refine lx_orV ?_ ?_ | refine lx_notV ?_ | refine lx_if ?_ ?_ ?_ | refine lx_chain ?_ ?_ ?_ ?_ ?_ | refine lx_call ?_ ?_ | refine lx_make' ?_ ?_ | refine lx_fld ?_ | refine lx_bm ?_ ?_ ?_ | refine lx_meth ?_ ?_ ?_ | refine lx_is ?_ ?_ ?_ | refine lx_sl' ?_ ?_ ?_ | refine lx_part ?_ | refine lx_rev' ?_ | exact lx_dnew' | refine lx_disp' ?_ ?_ | refine lx_listRg' ?_ | refine lx_dget ?_ ?_ | refine lx_din ?_ ?_ | refine lx_itList ?_ | refine lx_itTup ?_ | refine lx_itRng ?_ | refine lx_itEnum ?_ | refine lx_itZip ?_ ?_ | refine lx_lc' ?_ ?_ ?_ ?_ | refine lx_lcK' ?_ ?_ ?_ | refine lx_lcW' ?_ ?_ ?_ ?_ | refine lx_callW' ?_ ?_ | refine lx_callV ?_ ?_ | exact lx_lam' | exact lx_lam0' | exact lt_nil' | refine lt_cons' ?_ ?_ | refine lf_mk ?_ | refine lf_gc ?_ | refine lf_mkW' ?_ | refine lf_lam ?_ | exact rfl)
def c_second_of : Fn := gcF (mkFn 2 2 (sRet (iOp fSub (iOp cAdd (iOp fIx (iVar 0) (iC (.int 0))) (iOp fIx (iVar 0) (iC (.int 1)))) (iVar 1))))
theorem le_i_second_of : Lf c_second_of i_second_of := by
  unfold c_second_of i_second_of; repeat' (with_reducible first | exact Lx.refl _ | exact Ls.refl _ | exact Lf.refl _ | exact Lo.refl _ | exact lo_lt | exact lo_le | exact lo_gt | exact lo_ge | exact lo_mul' | exact lo_add' | exact lf_sorted' | exact lf_sortedD' | exact lf_sortedSet' | exact lf_list' | exact lo_append' | exact lo_extend' | exact lo_pop' | exact lo_reverse' | exact tg_name' | exact tg_sub' | exact tg_nil' | refine tg_tup' ?_ | refine tg_cons' ?_ ?_ | refine ls_seq ?_ ?_ | refine ls_asg' ?_ ?_ | refine ls_if ?_ ?_ ?_ | refine ls_ret ?_ | refine ls_expr ?_ | refine ls_for' ?_ ?_ ?_ | refine ls_while ?_ ?_ | refine ls_par ?_ | refine ls_par3 ?_ | refine ls_try ?_ ?_ | refine ls_fldSet' ?_ ?_ | refine ls_dset' ?_ ?_ ?_ | refine ls_aug' ?_ | refine ls_augS' ?_ ?_ ?_ | refine lx_op ?_ ?_ ?_ | refine lx_un ?_ | refine lx_cons ?_ ?_ | refine lx_lst' ?_ | refine lx_tup' ?_ | refine lx_cb ?_ ?_ | refine lx_B ?_ | refine lx_and ?_ ?_ | refine lx_or ?_ ?_ | refine lx_not ?_ | refine lx_andV ?_ ?_ | refine lx_orV ?_ ?_ | refine lx_notV ?_ | refine lx_if ?_ ?_ ?_ | refine lx_chain ?_ ?_ ?_ ?_ ?_ | refine lx_call ?_ ?_ | refine lx_make' ?_ ?_ | refine lx_fld ?_ | refine lx_bm ?_ ?_ ?_ | refine lx_meth ?_ ?_ ?_ | refine lx_is ?_ ?_ ?_ | refine lx_sl' ?_ ?_ ?_ | refine lx_part ?_ | refine lx_rev' ?_ | exact lx_dnew' | refine lx_disp' ?_ ?_ | refine lx_listRg' ?_ | refine lx_dget ?_ ?_ | refine lx_din ?_ ?_ | refine lx_itList ?_ | refine lx_itTup ?_ | refine lx_itRng ?_ | refine lx_itEnum ?_ | refine lx_itZip ?_ ?_ | refine lx_lc' ?_ ?_ ?_ ?_ | refine lx_lcK' ?_ ?_ ?_ | refine lx_lcW' ?_ ?_ ?_ ?_ | refine lx_callW' ?_ ?_ | refine lx_callV ?_ ?_ | exact lx_lam' | exact lx_lam0' | exact lt_nil' | refine lt_cons' ?_ ?_ | refine lf_mk ?_ | refine lf_gc ?_ | refine lf_mkW' ?_ | refine lf_lam ?_ | exact rfl)
def c_among : Fn := gcF (mkFn 2 3 (sRet (iCB fLen (iCons (cLc (itList (iVar 0)) (ctgName 2) (iAnd (iB (iOp (fIn false) (iOp fIx (iVar 2) (iC (.int 0))) (iVar 1))) (iB (iOp (fIn false) (iOp fIx (iVar 2) (iC (.int 1))) (iVar 1)))) (iVar 2) [2]) iNil))))
theorem le_i_among : Lf c_among i_among := by
  unfold c_among i_among; repeat' (with_reducible first | exact Lx.refl _ | exact Ls.refl _ | exact Lf.refl _ | exact Lo.refl _ | exact lo_lt | exact lo_le | exact lo_gt | exact lo_ge | exact lo_mul' | exact lo_add' | exact lf_sorted' | exact lf_sortedD' | exact lf_sortedSet' | exact lf_list' | exact lo_append' | exact lo_extend' | exact lo_pop' | exact lo_reverse' | exact tg_name' | exact tg_sub' | exact tg_nil' | refine tg_tup' ?_ | refine tg_cons' ?_ ?_ | refine ls_seq ?_ ?_ | refine ls_asg' ?_ ?_ | refine ls_if ?_ ?_ ?_ | refine ls_ret ?_ | refine ls_expr ?_ | refine ls_for' ?_ ?_ ?_ | refine ls_while ?_ ?_ | refine ls_par ?_ | refine ls_par3 ?_ | refine ls_try ?_ ?_ | refine ls_fldSet' ?_ ?_ | refine ls_dset' ?_ ?_ ?_ | refine ls_aug' ?_ | refine ls_augS' ?_ ?_ ?_ | refine lx_op ?_ ?_ ?_ | refine lx_un ?_ | refine lx_cons ?_ ?_ | refine lx_lst' ?_ | refine lx_tup' ?_ | refine lx_cb ?_ ?_ | refine lx_B ?_ | refine lx_and ?_ ?_ | refine lx_or ?_ ?_ | refine lx_not ?_ | refine lx_andV ?_ ?_ | refine lx_orV ?_ ?_ | refine lx_notV ?_ | refine lx_if ?_ ?_ ?_ | refine lx_chain ?_ ?_ ?_ ?_ ?_ | refine lx_call ?_ ?_ | refine lx_make' ?_ ?_ | refine lx_fld ?_ | refine lx_bm ?_ ?_ ?_ | refine lx_meth ?_ ?_ ?_ | refine lx_is ?_ ?_ ?_ | refine lx_sl' ?_ ?_ ?_ | refine lx_part ?_ | refine lx_rev' ?_ | exact lx_dnew' | refine lx_disp' ?_ ?_ | refine lx_listRg' ?_ | refine lx_dget ?_ ?_ | refine lx_din ?_ ?_ | refine lx_itList ?_ | refine lx_itTup ?_ | refine lx_itRng ?_ | refine lx_itEnum ?_ | refine lx_itZip ?_ ?_ | refine lx_lc' ?_ ?_ ?_ ?_ | refine lx_lcK' ?_ ?_ ?_ | refine lx_lcW' ?_ ?_ ?_ ?_ | refine lx_callW' ?_ ?_ | refine lx_callV ?_ ?_ | exact lx_lam' | exact lx_lam0' | exact lt_nil' | refine lt_cons' ?_ ?_ | refine lf_mk ?_ | refine lf_gc ?_ | refine lf_mkW' ?_ | refine lf_lam ?_ | exact rfl)
def c_are_people : Fn := gcF (mkFn 2 3 (sRet (iAndV (iOp fEq (iVar 0) (iCB cSortedSetF (iCons (iVar 0) iNil))) (iCB fAll (iCons (cLc (itList (iVar 0)) (ctgName 2) iYes (iChain fLeB fLtB (iC (.int 0)) (iVar 2) (iVar 1)) [2]) iNil)))))
theorem le_i_are_people : Lf c_are_people i_are_people := by
  unfold c_are_people i_are_people; repeat' (with_reducible first | exact Lx.refl _ | exact Ls.refl _ | exact Lf.refl _ | exact Lo.refl _ | exact lo_lt | exact lo_le | exact lo_gt | exact lo_ge | exact lo_mul' | exact lo_add' | exact lf_sorted' | exact lf_sortedD' | exact lf_sortedSet' | exact lf_list' | exact lo_append' | exact lo_extend' | exact lo_pop' | exact lo_reverse' | exact tg_name' | exact tg_sub' | exact tg_nil' | refine tg_tup' ?_ | refine tg_cons' ?_ ?_ | refine ls_seq ?_ ?_ | refine ls_asg' ?_ ?_ | refine ls_if ?_ ?_ ?_ | refine ls_ret ?_ | refine ls_expr ?_ | refine ls_for' ?_ ?_ ?_ | refine ls_while ?_ ?_ | refine ls_par ?_ | refine ls_par3 ?_ | refine ls_try ?_ ?_ | refine ls_fldSet' ?_ ?_ | refine ls_dset' ?_ ?_ ?_ | refine ls_aug' ?_ | refine ls_augS' ?_ ?_ ?_ | refine lx_op ?_ ?_ ?_ | refine lx_un ?_ | refine lx_cons ?_ ?_ | refine lx_lst' ?_ | refine lx_tup' ?_ | refine lx_cb ?_ ?_ | refine lx_B ?_ | refine lx_and ?_ ?_ | refine lx_or ?_ ?_ | refine lx_not ?_ | refine lx_andV ?_ ?_ | refine lx_orV ?_ ?_ | refine lx_notV ?_ | refine lx_if ?_ ?_ ?_ | refine lx_chain ?_ ?_ ?_ ?_ ?_ | refine lx_call ?_ ?_ | refine lx_make' ?_ ?_ | refine lx_fld ?_ | refine lx_bm ?_ ?_ ?_ | refine lx_meth ?_ ?_ ?_ | refine lx_is ?_ ?_ ?_ | refine lx_sl' ?_ ?_ ?_ | refine lx_part ?_ | refine lx_rev' ?_ | exact lx_dnew' | refine lx_disp' ?_ ?_ | refine lx_listRg' ?_ | refine lx_dget ?_ ?_ | refine lx_din ?_ ?_ | refine lx_itList ?_ | refine lx_itTup ?_ | refine lx_itRng ?_ | refine lx_itEnum ?_ | refine lx_itZip ?_ ?_ | refine lx_lc' ?_ ?_ ?_ ?_ | refine lx_lcK' ?_ ?_ ?_ | refine lx_lcW' ?_ ?_ ?_ ?_ | refine lx_callW' ?_ ?_ | refine lx_callV ?_ ?_ | exact lx_lam' | exact lx_lam0' | exact lt_nil' | refine lt_cons' ?_ ?_ | refine lf_mk ?_ | refine lf_gc ?_ | refine lf_mkW' ?_ | refine lf_lam ?_ | exact rfl)
def c_Shared_init : Fn := gcF (mkFn 2 2 (csFldSet (iVar 0) "sharing" (iCB cList (iCons (iVar 1) iNil))))
theorem le_i_Shared_init : Lf c_Shared_init i_Shared_init := by
  unfold c_Shared_init i_Shared_init; repeat' (with_reducible first | exact Lx.refl _ | exact Ls.refl _ | exact Lf.refl _ | exact Lo.refl _ | exact lo_lt | exact lo_le | exact lo_gt | exact lo_ge | exact lo_mul' | exact lo_add' | exact lf_sorted' | exact lf_sortedD' | exact lf_sortedSet' | exact lf_list' | exact lo_append' | exact lo_extend' | exact lo_pop' | exact lo_reverse' | exact tg_name' | exact tg_sub' | exact tg_nil' | refine tg_tup' ?_ | refine tg_cons' ?_ ?_ | refine ls_seq ?_ ?_ | refine ls_asg' ?_ ?_ | refine ls_if ?_ ?_ ?_ | refine ls_ret ?_ | refine ls_expr ?_ | refine ls_for' ?_ ?_ ?_ | refine ls_while ?_ ?_ | refine ls_par ?_ | refine ls_par3 ?_ | refine ls_try ?_ ?_ | refine ls_fldSet' ?_ ?_ | refine ls_dset' ?_ ?_ ?_ | refine ls_aug' ?_ | refine ls_augS' ?_ ?_ ?_ | refine lx_op ?_ ?_ ?_ | refine lx_un ?_ | refine lx_cons ?_ ?_ | refine lx_lst' ?_ | refine lx_tup' ?_ | refine lx_cb ?_ ?_ | refine lx_B ?_ | refine lx_and ?_ ?_ | refine lx_or ?_ ?_ | refine lx_not ?_ | refine lx_andV ?_ ?_ | refine lx_orV ?_ ?_ | refine lx_notV ?_ | refine lx_if ?_ ?_ ?_ | refine lx_chain ?_ ?_ ?_ ?_ ?_ | refine lx_call ?_ ?_ | refine lx_make' ?_ ?_ | refine lx_fld ?_ | refine lx_bm ?_ ?_ ?_ | refine lx_meth ?_ ?_ ?_ | refine lx_is ?_ ?_ ?_ | refine lx_sl' ?_ ?_ ?_ | refine lx_part ?_ | refine lx_rev' ?_ | exact lx_dnew' | refine lx_disp' ?_ ?_ | refine lx_listRg' ?_ | refine lx_dget ?_ ?_ | refine lx_din ?_ ?_ | refine lx_itList ?_ | refine lx_itTup ?_ | refine lx_itRng ?_ | refine lx_itEnum ?_ | refine lx_itZip ?_ ?_ | refine lx_lc' ?_ ?_ ?_ ?_ | refine lx_lcK' ?_ ?_ ?_ | refine lx_lcW' ?_ ?_ ?_ ?_ | refine lx_callW' ?_ ?_ | refine lx_callV ?_ ?_ | exact lx_lam' | exact lx_lam0' | exact lt_nil' | refine lt_cons' ?_ ?_ | refine lf_mk ?_ | refine lf_gc ?_ | refine lf_mkW' ?_ | refine lf_lam ?_ | exact rfl)
def c_Shared_shows : Fn := gcF (mkFn 4 6 (sSeq (sIf (iNot (iB (iCall c_is_sharing (iCons (iVar 2) (iCons (iFld (iVar 0) "sharing") iNil))))) (sRet (iC (.bl false))) sNext)
  (sRet (iCB fAll (iCons (cLc (itZip (iCall c_loads_of (iCons (iVar 1) (iCons (iFld (iVar 0) "sharing") iNil))) (iVar 3)) (tgTupN 2 [(ctgName 4), (ctgName 5)]) iYes (iOp fLeB (iVar 4) (iVar 5)) [4, 5]) iNil)))))
theorem le_i_Shared_shows : Lf c_Shared_shows i_Shared_shows := by
  unfold c_Shared_shows i_Shared_shows; repeat' (with_reducible first | exact Lx.refl _ | exact Ls.refl _ | exact Lf.refl _ | exact Lo.refl _ | exact le_i_is_sharing | exact le_i_loads_of | exact lo_lt | exact lo_le | exact lo_gt | exact lo_ge | exact lo_mul' | exact lo_add' | exact lf_sorted' | exact lf_sortedD' | exact lf_sortedSet' | exact lf_list' | exact lo_append' | exact lo_extend' | exact lo_pop' | exact lo_reverse' | exact tg_name' | exact tg_sub' | exact tg_nil' | refine tg_tup' ?_ | refine tg_cons' ?_ ?_ | refine ls_seq ?_ ?_ | refine ls_asg' ?_ ?_ | refine ls_if ?_ ?_ ?_ | refine ls_ret ?_ | refine ls_expr ?_ | refine ls_for' ?_ ?_ ?_ | refine ls_while ?_ ?_ | refine ls_par ?_ | refine ls_par3 ?_ | refine ls_try ?_ ?_ | refine ls_fldSet' ?_ ?_ | refine ls_dset' ?_ ?_ ?_ | refine ls_aug' ?_ | refine ls_augS' ?_ ?_ ?_ | refine lx_op ?_ ?_ ?_ | refine lx_un ?_ | refine lx_cons ?_ ?_ | refine lx_lst' ?_ | refine lx_tup' ?_ | refine lx_cb ?_ ?_ | refine lx_B ?_ | refine lx_and ?_ ?_ | refine lx_or ?_ ?_ | refine lx_not ?_ | refine lx_andV ?_ ?_ | refine lx_orV ?_ ?_ | refine lx_notV ?_ | refine lx_if ?_ ?_ ?_ | refine lx_chain ?_ ?_ ?_ ?_ ?_ | refine lx_call ?_ ?_ | refine lx_make' ?_ ?_ | refine lx_fld ?_ | refine lx_bm ?_ ?_ ?_ | refine lx_meth ?_ ?_ ?_ | refine lx_is ?_ ?_ ?_ | refine lx_sl' ?_ ?_ ?_ | refine lx_part ?_ | refine lx_rev' ?_ | exact lx_dnew' | refine lx_disp' ?_ ?_ | refine lx_listRg' ?_ | refine lx_dget ?_ ?_ | refine lx_din ?_ ?_ | refine lx_itList ?_ | refine lx_itTup ?_ | refine lx_itRng ?_ | refine lx_itEnum ?_ | refine lx_itZip ?_ ?_ | refine lx_lc' ?_ ?_ ?_ ?_ | refine lx_lcK' ?_ ?_ ?_ | refine lx_lcW' ?_ ?_ ?_ ?_ | refine lx_callW' ?_ ?_ | refine lx_callV ?_ ?_ | exact lx_lam' | exact lx_lam0' | exact lt_nil' | refine lt_cons' ?_ ?_ | refine lf_mk ?_ | refine lf_gc ?_ | refine lf_mkW' ?_ | refine lf_lam ?_ | exact rfl)
def c_Crowd_init : Fn := gcF (mkFn 2 2 (csFldSet (iVar 0) "some" (iCB cList (iCons (iVar 1) iNil))))
theorem le_i_Crowd_init : Lf c_Crowd_init i_Crowd_init := by
  unfold c_Crowd_init i_Crowd_init; repeat' (with_reducible first | exact Lx.refl _ | exact Ls.refl _ | exact Lf.refl _ | exact Lo.refl _ | exact lo_lt | exact lo_le | exact lo_gt | exact lo_ge | exact lo_mul' | exact lo_add' | exact lf_sorted' | exact lf_sortedD' | exact lf_sortedSet' | exact lf_list' | exact lo_append' | exact lo_extend' | exact lo_pop' | exact lo_reverse' | exact tg_name' | exact tg_sub' | exact tg_nil' | refine tg_tup' ?_ | refine tg_cons' ?_ ?_ | refine ls_seq ?_ ?_ | refine ls_asg' ?_ ?_ | refine ls_if ?_ ?_ ?_ | refine ls_ret ?_ | refine ls_expr ?_ | refine ls_for' ?_ ?_ ?_ | refine ls_while ?_ ?_ | refine ls_par ?_ | refine ls_par3 ?_ | refine ls_try ?_ ?_ | refine ls_fldSet' ?_ ?_ | refine ls_dset' ?_ ?_ ?_ | refine ls_aug' ?_ | refine ls_augS' ?_ ?_ ?_ | refine lx_op ?_ ?_ ?_ | refine lx_un ?_ | refine lx_cons ?_ ?_ | refine lx_lst' ?_ | refine lx_tup' ?_ | refine lx_cb ?_ ?_ | refine lx_B ?_ | refine lx_and ?_ ?_ | refine lx_or ?_ ?_ | refine lx_not ?_ | refine lx_andV ?_ ?_ | refine lx_orV ?_ ?_ | refine lx_notV ?_ | refine lx_if ?_ ?_ ?_ | refine lx_chain ?_ ?_ ?_ ?_ ?_ | refine lx_call ?_ ?_ | refine lx_make' ?_ ?_ | refine lx_fld ?_ | refine lx_bm ?_ ?_ ?_ | refine lx_meth ?_ ?_ ?_ | refine lx_is ?_ ?_ ?_ | refine lx_sl' ?_ ?_ ?_ | refine lx_part ?_ | refine lx_rev' ?_ | exact lx_dnew' | refine lx_disp' ?_ ?_ | refine lx_listRg' ?_ | refine lx_dget ?_ ?_ | refine lx_din ?_ ?_ | refine lx_itList ?_ | refine lx_itTup ?_ | refine lx_itRng ?_ | refine lx_itEnum ?_ | refine lx_itZip ?_ ?_ | refine lx_lc' ?_ ?_ ?_ ?_ | refine lx_lcK' ?_ ?_ ?_ | refine lx_lcW' ?_ ?_ ?_ ?_ | refine lx_callW' ?_ ?_ | refine lx_callV ?_ ?_ | exact lx_lam' | exact lx_lam0' | exact lt_nil' | refine lt_cons' ?_ ?_ | refine lf_mk ?_ | refine lf_gc ?_ | refine lf_mkW' ?_ | refine lf_lam ?_ | exact rfl)
def c_Crowd_shows : Fn := gcF (mkFn 4 5 (sSeq (sIf (iNot (iB (iCall c_are_people (iCons (iFld (iVar 0) "some") (iCons (iVar 1) iNil))))) (sRet (iC (.bl false))) sNext)
  (sRet (iOp fGtB (iCall c_among (iCons (iVar 2) (iCons (iFld (iVar 0) "some") iNil))) (iCB fSum (iCons (cLc (itList (iFld (iVar 0) "some")) (ctgName 4) iYes (iOp fIx (iVar 3) (iVar 4)) [4]) iNil))))))
theorem le_i_Crowd_shows : Lf c_Crowd_shows i_Crowd_shows := by
  unfold c_Crowd_shows i_Crowd_shows; repeat' (with_reducible first | exact Lx.refl _ | exact Ls.refl _ | exact Lf.refl _ | exact Lo.refl _ | exact le_i_among | exact le_i_are_people | exact lo_lt | exact lo_le | exact lo_gt | exact lo_ge | exact lo_mul' | exact lo_add' | exact lf_sorted' | exact lf_sortedD' | exact lf_sortedSet' | exact lf_list' | exact lo_append' | exact lo_extend' | exact lo_pop' | exact lo_reverse' | exact tg_name' | exact tg_sub' | exact tg_nil' | refine tg_tup' ?_ | refine tg_cons' ?_ ?_ | refine ls_seq ?_ ?_ | refine ls_asg' ?_ ?_ | refine ls_if ?_ ?_ ?_ | refine ls_ret ?_ | refine ls_expr ?_ | refine ls_for' ?_ ?_ ?_ | refine ls_while ?_ ?_ | refine ls_par ?_ | refine ls_par3 ?_ | refine ls_try ?_ ?_ | refine ls_fldSet' ?_ ?_ | refine ls_dset' ?_ ?_ ?_ | refine ls_aug' ?_ | refine ls_augS' ?_ ?_ ?_ | refine lx_op ?_ ?_ ?_ | refine lx_un ?_ | refine lx_cons ?_ ?_ | refine lx_lst' ?_ | refine lx_tup' ?_ | refine lx_cb ?_ ?_ | refine lx_B ?_ | refine lx_and ?_ ?_ | refine lx_or ?_ ?_ | refine lx_not ?_ | refine lx_andV ?_ ?_ | refine lx_orV ?_ ?_ | refine lx_notV ?_ | refine lx_if ?_ ?_ ?_ | refine lx_chain ?_ ?_ ?_ ?_ ?_ | refine lx_call ?_ ?_ | refine lx_make' ?_ ?_ | refine lx_fld ?_ | refine lx_bm ?_ ?_ ?_ | refine lx_meth ?_ ?_ ?_ | refine lx_is ?_ ?_ ?_ | refine lx_sl' ?_ ?_ ?_ | refine lx_part ?_ | refine lx_rev' ?_ | exact lx_dnew' | refine lx_disp' ?_ ?_ | refine lx_listRg' ?_ | refine lx_dget ?_ ?_ | refine lx_din ?_ ?_ | refine lx_itList ?_ | refine lx_itTup ?_ | refine lx_itRng ?_ | refine lx_itEnum ?_ | refine lx_itZip ?_ ?_ | refine lx_lc' ?_ ?_ ?_ ?_ | refine lx_lcK' ?_ ?_ ?_ | refine lx_lcW' ?_ ?_ ?_ ?_ | refine lx_callW' ?_ ?_ | refine lx_callV ?_ ?_ | exact lx_lam' | exact lx_lam0' | exact lt_nil' | refine lt_cons' ?_ ?_ | refine lf_mk ?_ | refine lf_gc ?_ | refine lf_mkW' ?_ | refine lf_lam ?_ | exact rfl)
def c_Even_init : Fn := gcF (mkFn 3 3 (sSeq (csFldSet (iVar 0) "sharing" (iCB cList (iCons (iVar 1) iNil)))
  (csFldSet (iVar 0) "some" (iCB cList (iCons (iVar 2) iNil)))))
theorem le_i_Even_init : Lf c_Even_init i_Even_init := by
  unfold c_Even_init i_Even_init; repeat' (with_reducible first | exact Lx.refl _ | exact Ls.refl _ | exact Lf.refl _ | exact Lo.refl _ | exact lo_lt | exact lo_le | exact lo_gt | exact lo_ge | exact lo_mul' | exact lo_add' | exact lf_sorted' | exact lf_sortedD' | exact lf_sortedSet' | exact lf_list' | exact lo_append' | exact lo_extend' | exact lo_pop' | exact lo_reverse' | exact tg_name' | exact tg_sub' | exact tg_nil' | refine tg_tup' ?_ | refine tg_cons' ?_ ?_ | refine ls_seq ?_ ?_ | refine ls_asg' ?_ ?_ | refine ls_if ?_ ?_ ?_ | refine ls_ret ?_ | refine ls_expr ?_ | refine ls_for' ?_ ?_ ?_ | refine ls_while ?_ ?_ | refine ls_par ?_ | refine ls_par3 ?_ | refine ls_try ?_ ?_ | refine ls_fldSet' ?_ ?_ | refine ls_dset' ?_ ?_ ?_ | refine ls_aug' ?_ | refine ls_augS' ?_ ?_ ?_ | refine lx_op ?_ ?_ ?_ | refine lx_un ?_ | refine lx_cons ?_ ?_ | refine lx_lst' ?_ | refine lx_tup' ?_ | refine lx_cb ?_ ?_ | refine lx_B ?_ | refine lx_and ?_ ?_ | refine lx_or ?_ ?_ | refine lx_not ?_ | refine lx_andV ?_ ?_ | refine lx_orV ?_ ?_ | refine lx_notV ?_ | refine lx_if ?_ ?_ ?_ | refine lx_chain ?_ ?_ ?_ ?_ ?_ | refine lx_call ?_ ?_ | refine lx_make' ?_ ?_ | refine lx_fld ?_ | refine lx_bm ?_ ?_ ?_ | refine lx_meth ?_ ?_ ?_ | refine lx_is ?_ ?_ ?_ | refine lx_sl' ?_ ?_ ?_ | refine lx_part ?_ | refine lx_rev' ?_ | exact lx_dnew' | refine lx_disp' ?_ ?_ | refine lx_listRg' ?_ | refine lx_dget ?_ ?_ | refine lx_din ?_ ?_ | refine lx_itList ?_ | refine lx_itTup ?_ | refine lx_itRng ?_ | refine lx_itEnum ?_ | refine lx_itZip ?_ ?_ | refine lx_lc' ?_ ?_ ?_ ?_ | refine lx_lcK' ?_ ?_ ?_ | refine lx_lcW' ?_ ?_ ?_ ?_ | refine lx_callW' ?_ ?_ | refine lx_callV ?_ ?_ | exact lx_lam' | exact lx_lam0' | exact lt_nil' | refine lt_cons' ?_ ?_ | refine lf_mk ?_ | refine lf_gc ?_ | refine lf_mkW' ?_ | refine lf_lam ?_ | exact rfl)
def c_Even_shows : Fn := gcF (mkFn 3 4 (sSeq (sIf (iOr (iNot (iB (iCall c_is_sharing (iCons (iVar 2) (iCons (iFld (iVar 0) "sharing") iNil))))) (iNot (iB (iCall c_are_people (iCons (iFld (iVar 0) "some") (iCons (iVar 1) iNil)))))) (sRet (iC (.bl false))) sNext)
  (sSeq (sIf (iB (iOp fEq (iVar 2) (cLst iNil))) (sRet (iOp fEq (iFld (iVar 0) "some") (cLst iNil))) sNext)
  (sSeq (sAsg (iCB fMax (iCons (iCall c_loads_of (iCons (iVar 1) (iCons (iFld (iVar 0) "sharing") iNil))) iNil)) (ctgName 3))
  (sRet (iOp fGtB (iCall c_among (iCons (iVar 2) (iCons (iFld (iVar 0) "some") iNil))) (iOp cMulF (iOp fSub (iVar 3) (iC (.int 1))) (iCB fLen (iCons (iFld (iVar 0) "some") iNil)))))))))
theorem le_i_Even_shows : Lf c_Even_shows i_Even_shows := by
  unfold c_Even_shows i_Even_shows; repeat' (with_reducible first | exact Lx.refl _ | exact Ls.refl _ | exact Lf.refl _ | exact Lo.refl _ | exact le_i_among | exact le_i_are_people | exact le_i_is_sharing | exact le_i_loads_of | exact lo_lt | exact lo_le | exact lo_gt | exact lo_ge | exact lo_mul' | exact lo_add' | exact lf_sorted' | exact lf_sortedD' | exact lf_sortedSet' | exact lf_list' | exact lo_append' | exact lo_extend' | exact lo_pop' | exact lo_reverse' | exact tg_name' | exact tg_sub' | exact tg_nil' | refine tg_tup' ?_ | refine tg_cons' ?_ ?_ | refine ls_seq ?_ ?_ | refine ls_asg' ?_ ?_ | refine ls_if ?_ ?_ ?_ | refine ls_ret ?_ | refine ls_expr ?_ | refine ls_for' ?_ ?_ ?_ | refine ls_while ?_ ?_ | refine ls_par ?_ | refine ls_par3 ?_ | refine ls_try ?_ ?_ | refine ls_fldSet' ?_ ?_ | refine ls_dset' ?_ ?_ ?_ | refine ls_aug' ?_ | refine ls_augS' ?_ ?_ ?_ | refine lx_op ?_ ?_ ?_ | refine lx_un ?_ | refine lx_cons ?_ ?_ | refine lx_lst' ?_ | refine lx_tup' ?_ | refine lx_cb ?_ ?_ | refine lx_B ?_ | refine lx_and ?_ ?_ | refine lx_or ?_ ?_ | refine lx_not ?_ | refine lx_andV ?_ ?_ | refine lx_orV ?_ ?_ | refine lx_notV ?_ | refine lx_if ?_ ?_ ?_ | refine lx_chain ?_ ?_ ?_ ?_ ?_ | refine lx_call ?_ ?_ | refine lx_make' ?_ ?_ | refine lx_fld ?_ | refine lx_bm ?_ ?_ ?_ | refine lx_meth ?_ ?_ ?_ | refine lx_is ?_ ?_ ?_ | refine lx_sl' ?_ ?_ ?_ | refine lx_part ?_ | refine lx_rev' ?_ | exact lx_dnew' | refine lx_disp' ?_ ?_ | refine lx_listRg' ?_ | refine lx_dget ?_ ?_ | refine lx_din ?_ ?_ | refine lx_itList ?_ | refine lx_itTup ?_ | refine lx_itRng ?_ | refine lx_itEnum ?_ | refine lx_itZip ?_ ?_ | refine lx_lc' ?_ ?_ ?_ ?_ | refine lx_lcK' ?_ ?_ ?_ | refine lx_lcW' ?_ ?_ ?_ ?_ | refine lx_callW' ?_ ?_ | refine lx_callV ?_ ?_ | exact lx_lam' | exact lx_lam0' | exact lt_nil' | refine lt_cons' ?_ ?_ | refine lf_mk ?_ | refine lf_gc ?_ | refine lf_mkW' ?_ | refine lf_lam ?_ | exact rfl)
def c_Chain_init : Fn := gcF (mkFn 2 2 (csFldSet (iVar 0) "tasks" (iCB cList (iCons (iVar 1) iNil))))
theorem le_i_Chain_init : Lf c_Chain_init i_Chain_init := by
  unfold c_Chain_init i_Chain_init; repeat' (with_reducible first | exact Lx.refl _ | exact Ls.refl _ | exact Lf.refl _ | exact Lo.refl _ | exact lo_lt | exact lo_le | exact lo_gt | exact lo_ge | exact lo_mul' | exact lo_add' | exact lf_sorted' | exact lf_sortedD' | exact lf_sortedSet' | exact lf_list' | exact lo_append' | exact lo_extend' | exact lo_pop' | exact lo_reverse' | exact tg_name' | exact tg_sub' | exact tg_nil' | refine tg_tup' ?_ | refine tg_cons' ?_ ?_ | refine ls_seq ?_ ?_ | refine ls_asg' ?_ ?_ | refine ls_if ?_ ?_ ?_ | refine ls_ret ?_ | refine ls_expr ?_ | refine ls_for' ?_ ?_ ?_ | refine ls_while ?_ ?_ | refine ls_par ?_ | refine ls_par3 ?_ | refine ls_try ?_ ?_ | refine ls_fldSet' ?_ ?_ | refine ls_dset' ?_ ?_ ?_ | refine ls_aug' ?_ | refine ls_augS' ?_ ?_ ?_ | refine lx_op ?_ ?_ ?_ | refine lx_un ?_ | refine lx_cons ?_ ?_ | refine lx_lst' ?_ | refine lx_tup' ?_ | refine lx_cb ?_ ?_ | refine lx_B ?_ | refine lx_and ?_ ?_ | refine lx_or ?_ ?_ | refine lx_not ?_ | refine lx_andV ?_ ?_ | refine lx_orV ?_ ?_ | refine lx_notV ?_ | refine lx_if ?_ ?_ ?_ | refine lx_chain ?_ ?_ ?_ ?_ ?_ | refine lx_call ?_ ?_ | refine lx_make' ?_ ?_ | refine lx_fld ?_ | refine lx_bm ?_ ?_ ?_ | refine lx_meth ?_ ?_ ?_ | refine lx_is ?_ ?_ ?_ | refine lx_sl' ?_ ?_ ?_ | refine lx_part ?_ | refine lx_rev' ?_ | exact lx_dnew' | refine lx_disp' ?_ ?_ | refine lx_listRg' ?_ | refine lx_dget ?_ ?_ | refine lx_din ?_ ?_ | refine lx_itList ?_ | refine lx_itTup ?_ | refine lx_itRng ?_ | refine lx_itEnum ?_ | refine lx_itZip ?_ ?_ | refine lx_lc' ?_ ?_ ?_ ?_ | refine lx_lcK' ?_ ?_ ?_ | refine lx_lcW' ?_ ?_ ?_ ?_ | refine lx_callW' ?_ ?_ | refine lx_callV ?_ ?_ | exact lx_lam' | exact lx_lam0' | exact lt_nil' | refine lt_cons' ?_ ?_ | refine lf_mk ?_ | refine lf_gc ?_ | refine lf_mkW' ?_ | refine lf_lam ?_ | exact rfl)
def c_Chain_shows : Fn := gcF (mkFn 6 8 (sSeq (sAsg (cLst (iCons (iVar 4) iNil)) (ctgName 6))
  (sSeq (sFor (itList (iFld (iVar 0) "tasks")) (ctgName 7) (sSeq (sIf (iOr (iNot (iB (iChain fLeB fLtB (iC (.int 0)) (iVar 7) (iCB fLen (iCons (iVar 2) iNil))))) (iB (iOp fNe (iOp fIx (iVar 3) (iVar 7)) (iOp fIx (iVar 6) (iUn fNegB (iC (.int 1))))))) (sRet (iC (.bl false))) sNext)
  (sExpr (iBM cAppend (iVar 6) (iCons (iCall c_second_of (iCons (iOp fIx (iVar 2) (iVar 7)) (iCons (iOp fIx (iVar 6) (iUn fNegB (iC (.int 1)))) iNil))) iNil)))))
  (sRet (iAndV (iOp fEq (iOp fIx (iVar 6) (iUn fNegB (iC (.int 1)))) (iVar 5)) (iOp fEq (iCB fLenSet (iCons (iVar 6) iNil)) (iCB fLen (iCons (iVar 6) iNil))))))))
theorem le_i_Chain_shows : Lf c_Chain_shows i_Chain_shows := by
  unfold c_Chain_shows i_Chain_shows; repeat' (with_reducible first | exact Lx.refl _ | exact Ls.refl _ | exact Lf.refl _ | exact Lo.refl _ | exact le_i_second_of | exact lo_lt | exact lo_le | exact lo_gt | exact lo_ge | exact lo_mul' | exact lo_add' | exact lf_sorted' | exact lf_sortedD' | exact lf_sortedSet' | exact lf_list' | exact lo_append' | exact lo_extend' | exact lo_pop' | exact lo_reverse' | exact tg_name' | exact tg_sub' | exact tg_nil' | refine tg_tup' ?_ | refine tg_cons' ?_ ?_ | refine ls_seq ?_ ?_ | refine ls_asg' ?_ ?_ | refine ls_if ?_ ?_ ?_ | refine ls_ret ?_ | refine ls_expr ?_ | refine ls_for' ?_ ?_ ?_ | refine ls_while ?_ ?_ | refine ls_par ?_ | refine ls_par3 ?_ | refine ls_try ?_ ?_ | refine ls_fldSet' ?_ ?_ | refine ls_dset' ?_ ?_ ?_ | refine ls_aug' ?_ | refine ls_augS' ?_ ?_ ?_ | refine lx_op ?_ ?_ ?_ | refine lx_un ?_ | refine lx_cons ?_ ?_ | refine lx_lst' ?_ | refine lx_tup' ?_ | refine lx_cb ?_ ?_ | refine lx_B ?_ | refine lx_and ?_ ?_ | refine lx_or ?_ ?_ | refine lx_not ?_ | refine lx_andV ?_ ?_ | refine lx_orV ?_ ?_ | refine lx_notV ?_ | refine lx_if ?_ ?_ ?_ | refine lx_chain ?_ ?_ ?_ ?_ ?_ | refine lx_call ?_ ?_ | refine lx_make' ?_ ?_ | refine lx_fld ?_ | refine lx_bm ?_ ?_ ?_ | refine lx_meth ?_ ?_ ?_ | refine lx_is ?_ ?_ ?_ | refine lx_sl' ?_ ?_ ?_ | refine lx_part ?_ | refine lx_rev' ?_ | exact lx_dnew' | refine lx_disp' ?_ ?_ | refine lx_listRg' ?_ | refine lx_dget ?_ ?_ | refine lx_din ?_ ?_ | refine lx_itList ?_ | refine lx_itTup ?_ | refine lx_itRng ?_ | refine lx_itEnum ?_ | refine lx_itZip ?_ ?_ | refine lx_lc' ?_ ?_ ?_ ?_ | refine lx_lcK' ?_ ?_ ?_ | refine lx_lcW' ?_ ?_ ?_ ?_ | refine lx_callW' ?_ ?_ | refine lx_callV ?_ ?_ | exact lx_lam' | exact lx_lam0' | exact lt_nil' | refine lt_cons' ?_ ?_ | refine lf_mk ?_ | refine lf_gc ?_ | refine lf_mkW' ?_ | refine lf_lam ?_ | exact rfl)
def c_Side_init : Fn := gcF (mkFn 2 2 (csFldSet (iVar 0) "some" (iCB cList (iCons (iVar 1) iNil))))
theorem le_i_Side_init : Lf c_Side_init i_Side_init := by
  unfold c_Side_init i_Side_init; repeat' (with_reducible first | exact Lx.refl _ | exact Ls.refl _ | exact Lf.refl _ | exact Lo.refl _ | exact lo_lt | exact lo_le | exact lo_gt | exact lo_ge | exact lo_mul' | exact lo_add' | exact lf_sorted' | exact lf_sortedD' | exact lf_sortedSet' | exact lf_list' | exact lo_append' | exact lo_extend' | exact lo_pop' | exact lo_reverse' | exact tg_name' | exact tg_sub' | exact tg_nil' | refine tg_tup' ?_ | refine tg_cons' ?_ ?_ | refine ls_seq ?_ ?_ | refine ls_asg' ?_ ?_ | refine ls_if ?_ ?_ ?_ | refine ls_ret ?_ | refine ls_expr ?_ | refine ls_for' ?_ ?_ ?_ | refine ls_while ?_ ?_ | refine ls_par ?_ | refine ls_par3 ?_ | refine ls_try ?_ ?_ | refine ls_fldSet' ?_ ?_ | refine ls_dset' ?_ ?_ ?_ | refine ls_aug' ?_ | refine ls_augS' ?_ ?_ ?_ | refine lx_op ?_ ?_ ?_ | refine lx_un ?_ | refine lx_cons ?_ ?_ | refine lx_lst' ?_ | refine lx_tup' ?_ | refine lx_cb ?_ ?_ | refine lx_B ?_ | refine lx_and ?_ ?_ | refine lx_or ?_ ?_ | refine lx_not ?_ | refine lx_andV ?_ ?_ | refine lx_orV ?_ ?_ | refine lx_notV ?_ | refine lx_if ?_ ?_ ?_ | refine lx_chain ?_ ?_ ?_ ?_ ?_ | refine lx_call ?_ ?_ | refine lx_make' ?_ ?_ | refine lx_fld ?_ | refine lx_bm ?_ ?_ ?_ | refine lx_meth ?_ ?_ ?_ | refine lx_is ?_ ?_ ?_ | refine lx_sl' ?_ ?_ ?_ | refine lx_part ?_ | refine lx_rev' ?_ | exact lx_dnew' | refine lx_disp' ?_ ?_ | refine lx_listRg' ?_ | refine lx_dget ?_ ?_ | refine lx_din ?_ ?_ | refine lx_itList ?_ | refine lx_itTup ?_ | refine lx_itRng ?_ | refine lx_itEnum ?_ | refine lx_itZip ?_ ?_ | refine lx_lc' ?_ ?_ ?_ ?_ | refine lx_lcK' ?_ ?_ ?_ | refine lx_lcW' ?_ ?_ ?_ ?_ | refine lx_callW' ?_ ?_ | refine lx_callV ?_ ?_ | exact lx_lam' | exact lx_lam0' | exact lt_nil' | refine lt_cons' ?_ ?_ | refine lf_mk ?_ | refine lf_gc ?_ | refine lf_mkW' ?_ | refine lf_lam ?_ | exact rfl)
def c_Side_shows : Fn := gcF (mkFn 6 9 (sSeq (sIf (iOr (iNot (iB (iCall c_are_people (iCons (iFld (iVar 0) "some") (iCons (iVar 1) iNil))))) (iOr (iB (iOp (fIn true) (iVar 4) (iFld (iVar 0) "some"))) (iB (iOp (fIn false) (iVar 5) (iFld (iVar 0) "some"))))) (sRet (iC (.bl false))) sNext)
  (sSeq (sAsg (cLc (itEnum (iVar 3)) (tgTupN 2 [(ctgName 7), (ctgName 8)]) (iAnd (iB (iOp (fIn false) (iVar 8) (iFld (iVar 0) "some"))) (iB (iOp (fIn true) (iCall c_second_of (iCons (iOp fIx (iVar 2) (iVar 7)) (iCons (iVar 8) iNil))) (iFld (iVar 0) "some")))) (iVar 7) [7, 8]) (ctgName 6))
  (sRet (iOp fEq (iVar 6) (cLst iNil))))))
theorem le_i_Side_shows : Lf c_Side_shows i_Side_shows := by
  unfold c_Side_shows i_Side_shows; repeat' (with_reducible first | exact Lx.refl _ | exact Ls.refl _ | exact Lf.refl _ | exact Lo.refl _ | exact le_i_are_people | exact le_i_second_of | exact lo_lt | exact lo_le | exact lo_gt | exact lo_ge | exact lo_mul' | exact lo_add' | exact lf_sorted' | exact lf_sortedD' | exact lf_sortedSet' | exact lf_list' | exact lo_append' | exact lo_extend' | exact lo_pop' | exact lo_reverse' | exact tg_name' | exact tg_sub' | exact tg_nil' | refine tg_tup' ?_ | refine tg_cons' ?_ ?_ | refine ls_seq ?_ ?_ | refine ls_asg' ?_ ?_ | refine ls_if ?_ ?_ ?_ | refine ls_ret ?_ | refine ls_expr ?_ | refine ls_for' ?_ ?_ ?_ | refine ls_while ?_ ?_ | refine ls_par ?_ | refine ls_par3 ?_ | refine ls_try ?_ ?_ | refine ls_fldSet' ?_ ?_ | refine ls_dset' ?_ ?_ ?_ | refine ls_aug' ?_ | refine ls_augS' ?_ ?_ ?_ | refine lx_op ?_ ?_ ?_ | refine lx_un ?_ | refine lx_cons ?_ ?_ | refine lx_lst' ?_ | refine lx_tup' ?_ | refine lx_cb ?_ ?_ | refine lx_B ?_ | refine lx_and ?_ ?_ | refine lx_or ?_ ?_ | refine lx_not ?_ | refine lx_andV ?_ ?_ | refine lx_orV ?_ ?_ | refine lx_notV ?_ | refine lx_if ?_ ?_ ?_ | refine lx_chain ?_ ?_ ?_ ?_ ?_ | refine lx_call ?_ ?_ | refine lx_make' ?_ ?_ | refine lx_fld ?_ | refine lx_bm ?_ ?_ ?_ | refine lx_meth ?_ ?_ ?_ | refine lx_is ?_ ?_ ?_ | refine lx_sl' ?_ ?_ ?_ | refine lx_part ?_ | refine lx_rev' ?_ | exact lx_dnew' | refine lx_disp' ?_ ?_ | refine lx_listRg' ?_ | refine lx_dget ?_ ?_ | refine lx_din ?_ ?_ | refine lx_itList ?_ | refine lx_itTup ?_ | refine lx_itRng ?_ | refine lx_itEnum ?_ | refine lx_itZip ?_ ?_ | refine lx_lc' ?_ ?_ ?_ ?_ | refine lx_lcK' ?_ ?_ ?_ | refine lx_lcW' ?_ ?_ ?_ ?_ | refine lx_callW' ?_ ?_ | refine lx_callV ?_ ?_ | exact lx_lam' | exact lx_lam0' | exact lt_nil' | refine lt_cons' ?_ ?_ | refine lf_mk ?_ | refine lf_gc ?_ | refine lf_mkW' ?_ | refine lf_lam ?_ | exact rfl)
def c_came_from : Fn := gcF (mkFn 3 10 (sSeq (sAsg cDNew (ctgName 3))
  (sSeq (sFor (itList (iVar 2)) (ctgName 4) (csDSet (iVar 3) (iVar 4) (iUn fNegB (iC (.int 1)))))
  (sSeq (sAsg (iCB cList (iCons (iVar 2) iNil)) (ctgName 5))
  (sSeq (sAsg (iC (.int 0)) (ctgName 6))
  (sSeq (cWhile 400 (iB (iOp fLtB (iVar 6) (iCB fLen (iCons (iVar 5) iNil)))) (sSeq (sAsg (iOp fIx (iVar 5) (iVar 6)) (ctgName 7))
  (sSeq (csAug 6 (iC (.int 1)))
  (sFor (itEnum (iVar 1)) (tgTupN 2 [(ctgName 8), (ctgName 9)]) (sIf (iAnd (iB (iOp fEq (iVar 9) (iVar 7))) (iB (iDIn true (iCall c_second_of (iCons (iOp fIx (iVar 0) (iVar 8)) (iCons (iVar 7) iNil))) (iVar 3)))) (sSeq (csDSet (iVar 3) (iCall c_second_of (iCons (iOp fIx (iVar 0) (iVar 8)) (iCons (iVar 7) iNil))) (iVar 8))
  (sExpr (iBM cAppend (iVar 5) (iCons (iCall c_second_of (iCons (iOp fIx (iVar 0) (iVar 8)) (iCons (iVar 7) iNil))) iNil)))) sNext)))))
  (sRet (iVar 3))))))))
theorem le_i_came_from : Lf c_came_from i_came_from := by
  unfold c_came_from i_came_from; repeat' (with_reducible first | exact Lx.refl _ | exact Ls.refl _ | exact Lf.refl _ | exact Lo.refl _ | exact le_i_second_of | exact lo_lt | exact lo_le | exact lo_gt | exact lo_ge | exact lo_mul' | exact lo_add' | exact lf_sorted' | exact lf_sortedD' | exact lf_sortedSet' | exact lf_list' | exact lo_append' | exact lo_extend' | exact lo_pop' | exact lo_reverse' | exact tg_name' | exact tg_sub' | exact tg_nil' | refine tg_tup' ?_ | refine tg_cons' ?_ ?_ | refine ls_seq ?_ ?_ | refine ls_asg' ?_ ?_ | refine ls_if ?_ ?_ ?_ | refine ls_ret ?_ | refine ls_expr ?_ | refine ls_for' ?_ ?_ ?_ | refine ls_while ?_ ?_ | refine ls_par ?_ | refine ls_par3 ?_ | refine ls_try ?_ ?_ | refine ls_fldSet' ?_ ?_ | refine ls_dset' ?_ ?_ ?_ | refine ls_aug' ?_ | refine ls_augS' ?_ ?_ ?_ | refine lx_op ?_ ?_ ?_ | refine lx_un ?_ | refine lx_cons ?_ ?_ | refine lx_lst' ?_ | refine lx_tup' ?_ | refine lx_cb ?_ ?_ | refine lx_B ?_ | refine lx_and ?_ ?_ | refine lx_or ?_ ?_ | refine lx_not ?_ | refine lx_andV ?_ ?_ | refine lx_orV ?_ ?_ | refine lx_notV ?_ | refine lx_if ?_ ?_ ?_ | refine lx_chain ?_ ?_ ?_ ?_ ?_ | refine lx_call ?_ ?_ | refine lx_make' ?_ ?_ | refine lx_fld ?_ | refine lx_bm ?_ ?_ ?_ | refine lx_meth ?_ ?_ ?_ | refine lx_is ?_ ?_ ?_ | refine lx_sl' ?_ ?_ ?_ | refine lx_part ?_ | refine lx_rev' ?_ | exact lx_dnew' | refine lx_disp' ?_ ?_ | refine lx_listRg' ?_ | refine lx_dget ?_ ?_ | refine lx_din ?_ ?_ | refine lx_itList ?_ | refine lx_itTup ?_ | refine lx_itRng ?_ | refine lx_itEnum ?_ | refine lx_itZip ?_ ?_ | refine lx_lc' ?_ ?_ ?_ ?_ | refine lx_lcK' ?_ ?_ ?_ | refine lx_lcW' ?_ ?_ ?_ ?_ | refine lx_callW' ?_ ?_ | refine lx_callV ?_ ?_ | exact lx_lam' | exact lx_lam0' | exact lt_nil' | refine lt_cons' ?_ ?_ | refine lf_mk ?_ | refine lf_gc ?_ | refine lf_mkW' ?_ | refine lf_lam ?_ | exact rfl)
def c_chain_to : Fn := gcF (mkFn 3 4 (sSeq (sAsg (cLst iNil) (ctgName 3))
  (sSeq (cWhile 400 (iB (iOp fGeB (iDGet (iVar 1) (iVar 2)) (iC (.int 0)))) (sSeq (sExpr (iBM cAppend (iVar 3) (iCons (iDGet (iVar 1) (iVar 2)) iNil)))
  (sAsg (iCall c_second_of (iCons (iOp fIx (iVar 0) (iDGet (iVar 1) (iVar 2))) (iCons (iVar 2) iNil))) (ctgName 2))))
  (sRet (cRev (iVar 3))))))
theorem le_i_chain_to : Lf c_chain_to i_chain_to := by
  unfold c_chain_to i_chain_to; repeat' (with_reducible first | exact Lx.refl _ | exact Ls.refl _ | exact Lf.refl _ | exact Lo.refl _ | exact le_i_second_of | exact lo_lt | exact lo_le | exact lo_gt | exact lo_ge | exact lo_mul' | exact lo_add' | exact lf_sorted' | exact lf_sortedD' | exact lf_sortedSet' | exact lf_list' | exact lo_append' | exact lo_extend' | exact lo_pop' | exact lo_reverse' | exact tg_name' | exact tg_sub' | exact tg_nil' | refine tg_tup' ?_ | refine tg_cons' ?_ ?_ | refine ls_seq ?_ ?_ | refine ls_asg' ?_ ?_ | refine ls_if ?_ ?_ ?_ | refine ls_ret ?_ | refine ls_expr ?_ | refine ls_for' ?_ ?_ ?_ | refine ls_while ?_ ?_ | refine ls_par ?_ | refine ls_par3 ?_ | refine ls_try ?_ ?_ | refine ls_fldSet' ?_ ?_ | refine ls_dset' ?_ ?_ ?_ | refine ls_aug' ?_ | refine ls_augS' ?_ ?_ ?_ | refine lx_op ?_ ?_ ?_ | refine lx_un ?_ | refine lx_cons ?_ ?_ | refine lx_lst' ?_ | refine lx_tup' ?_ | refine lx_cb ?_ ?_ | refine lx_B ?_ | refine lx_and ?_ ?_ | refine lx_or ?_ ?_ | refine lx_not ?_ | refine lx_andV ?_ ?_ | refine lx_orV ?_ ?_ | refine lx_notV ?_ | refine lx_if ?_ ?_ ?_ | refine lx_chain ?_ ?_ ?_ ?_ ?_ | refine lx_call ?_ ?_ | refine lx_make' ?_ ?_ | refine lx_fld ?_ | refine lx_bm ?_ ?_ ?_ | refine lx_meth ?_ ?_ ?_ | refine lx_is ?_ ?_ ?_ | refine lx_sl' ?_ ?_ ?_ | refine lx_part ?_ | refine lx_rev' ?_ | exact lx_dnew' | refine lx_disp' ?_ ?_ | refine lx_listRg' ?_ | refine lx_dget ?_ ?_ | refine lx_din ?_ ?_ | refine lx_itList ?_ | refine lx_itTup ?_ | refine lx_itRng ?_ | refine lx_itEnum ?_ | refine lx_itZip ?_ ?_ | refine lx_lc' ?_ ?_ ?_ ?_ | refine lx_lcK' ?_ ?_ ?_ | refine lx_lcW' ?_ ?_ ?_ ?_ | refine lx_callW' ?_ ?_ | refine lx_callV ?_ ?_ | exact lx_lam' | exact lx_lam0' | exact lt_nil' | refine lt_cons' ?_ ?_ | refine lf_mk ?_ | refine lf_gc ?_ | refine lf_mkW' ?_ | refine lf_lam ?_ | exact rfl)
def c_share : Fn := gcF (mkFn 3 12 (sSeq (sAsg (cLst iNil) (ctgName 3))
  (sSeq (sAsg (iOp cMulF (cLst (iCons (iC (.int 0)) iNil)) (iVar 0)) (ctgName 4))
  (sSeq (sFor (itList (iVar 1)) (ctgName 5) (sSeq (sAsg (iCall c_came_from (iCons (iVar 1) (iCons (iVar 3) (iCons (iCB cList (iCons (iVar 5) iNil)) iNil)))) (ctgName 6))
  (sSeq (sAsg (cLcK 6 (ctgName 11) (iB (iOp fLtB (iOp fIx (iVar 4) (iVar 11)) (iOp fIx (iVar 2) (iVar 11)))) (iVar 11) [11]) (ctgName 7))
  (sSeq (sIf (iB (iOp fEq (iVar 7) (cLst iNil))) (sRet (cTup (iCons (iVar 3) (iCons (iCB cSortedDF (iCons (iVar 6) iNil)) iNil)))) sNext)
  (sSeq (sAsg (iCall c_chain_to (iCons (iVar 1) (iCons (iVar 6) (iCons (iOp fIx (iVar 7) (iC (.int 0))) iNil)))) (ctgName 8))
  (sSeq (sAsg (iIf (iB (iOp fNe (iVar 8) (cLst iNil))) (iOp fIx (iVar 3) (iOp fIx (iVar 8) (iC (.int 0)))) (iOp fIx (iVar 7) (iC (.int 0)))) (ctgName 9))
  (sSeq (sFor (itList (iVar 8)) (ctgName 10) (sAsg (iCall c_second_of (iCons (iOp fIx (iVar 1) (iVar 10)) (iCons (iOp fIx (iVar 3) (iVar 10)) iNil))) (ctgSub (iVar 3) (iVar 10))))
  (sSeq (sExpr (iBM cAppend (iVar 3) (iCons (iVar 9) iNil)))
  (csAugS (iVar 4) (iOp fIx (iVar 7) (iC (.int 0))) (iC (.int 1)))))))))))
  (sRet (cTup (iCons (iVar 3) (iCons (cLst iNil) iNil))))))))
theorem le_i_share : Lf c_share i_share := by
  unfold c_share i_share; repeat' (with_reducible first | exact Lx.refl _ | exact Ls.refl _ | exact Lf.refl _ | exact Lo.refl _ | exact le_i_came_from | exact le_i_chain_to | exact le_i_second_of | exact lo_lt | exact lo_le | exact lo_gt | exact lo_ge | exact lo_mul' | exact lo_add' | exact lf_sorted' | exact lf_sortedD' | exact lf_sortedSet' | exact lf_list' | exact lo_append' | exact lo_extend' | exact lo_pop' | exact lo_reverse' | exact tg_name' | exact tg_sub' | exact tg_nil' | refine tg_tup' ?_ | refine tg_cons' ?_ ?_ | refine ls_seq ?_ ?_ | refine ls_asg' ?_ ?_ | refine ls_if ?_ ?_ ?_ | refine ls_ret ?_ | refine ls_expr ?_ | refine ls_for' ?_ ?_ ?_ | refine ls_while ?_ ?_ | refine ls_par ?_ | refine ls_par3 ?_ | refine ls_try ?_ ?_ | refine ls_fldSet' ?_ ?_ | refine ls_dset' ?_ ?_ ?_ | refine ls_aug' ?_ | refine ls_augS' ?_ ?_ ?_ | refine lx_op ?_ ?_ ?_ | refine lx_un ?_ | refine lx_cons ?_ ?_ | refine lx_lst' ?_ | refine lx_tup' ?_ | refine lx_cb ?_ ?_ | refine lx_B ?_ | refine lx_and ?_ ?_ | refine lx_or ?_ ?_ | refine lx_not ?_ | refine lx_andV ?_ ?_ | refine lx_orV ?_ ?_ | refine lx_notV ?_ | refine lx_if ?_ ?_ ?_ | refine lx_chain ?_ ?_ ?_ ?_ ?_ | refine lx_call ?_ ?_ | refine lx_make' ?_ ?_ | refine lx_fld ?_ | refine lx_bm ?_ ?_ ?_ | refine lx_meth ?_ ?_ ?_ | refine lx_is ?_ ?_ ?_ | refine lx_sl' ?_ ?_ ?_ | refine lx_part ?_ | refine lx_rev' ?_ | exact lx_dnew' | refine lx_disp' ?_ ?_ | refine lx_listRg' ?_ | refine lx_dget ?_ ?_ | refine lx_din ?_ ?_ | refine lx_itList ?_ | refine lx_itTup ?_ | refine lx_itRng ?_ | refine lx_itEnum ?_ | refine lx_itZip ?_ ?_ | refine lx_lc' ?_ ?_ ?_ ?_ | refine lx_lcK' ?_ ?_ ?_ | refine lx_lcW' ?_ ?_ ?_ ?_ | refine lx_callW' ?_ ?_ | refine lx_callV ?_ ?_ | exact lx_lam' | exact lx_lam0' | exact lt_nil' | refine lt_cons' ?_ ?_ | refine lf_mk ?_ | refine lf_gc ?_ | refine lf_mkW' ?_ | refine lf_lam ?_ | exact rfl)
def c_shared : Fn := gcF (mkFn 3 5 (sSeq (sExpr (iCall c_check_tasks (iCons (iVar 0) (iCons (iVar 1) iNil))))
  (sSeq (sExpr (iCall c_check_limits (iCons (iVar 0) (iCons (iVar 2) iNil))))
  (sSeq (sAsg (iCall c_share (iCons (iVar 0) (iCons (iVar 1) (iCons (iVar 2) iNil)))) (tgTupN 2 [(ctgName 3), (ctgName 4)]))
  (sRet (iIf (iB (iOp fEq (iVar 4) (cLst iNil))) (cMake "Shared" c_Shared_init (iCons (iVar 3) iNil)) (cMake "Crowd" c_Crowd_init (iCons (iVar 4) iNil))))))))
theorem le_i_shared : Lf c_shared i_shared := by
  unfold c_shared i_shared; repeat' (with_reducible first | exact Lx.refl _ | exact Ls.refl _ | exact Lf.refl _ | exact Lo.refl _ | exact le_i_Crowd_init | exact le_i_Shared_init | exact le_i_check_limits | exact le_i_check_tasks | exact le_i_share | exact lo_lt | exact lo_le | exact lo_gt | exact lo_ge | exact lo_mul' | exact lo_add' | exact lf_sorted' | exact lf_sortedD' | exact lf_sortedSet' | exact lf_list' | exact lo_append' | exact lo_extend' | exact lo_pop' | exact lo_reverse' | exact tg_name' | exact tg_sub' | exact tg_nil' | refine tg_tup' ?_ | refine tg_cons' ?_ ?_ | refine ls_seq ?_ ?_ | refine ls_asg' ?_ ?_ | refine ls_if ?_ ?_ ?_ | refine ls_ret ?_ | refine ls_expr ?_ | refine ls_for' ?_ ?_ ?_ | refine ls_while ?_ ?_ | refine ls_par ?_ | refine ls_par3 ?_ | refine ls_try ?_ ?_ | refine ls_fldSet' ?_ ?_ | refine ls_dset' ?_ ?_ ?_ | refine ls_aug' ?_ | refine ls_augS' ?_ ?_ ?_ | refine lx_op ?_ ?_ ?_ | refine lx_un ?_ | refine lx_cons ?_ ?_ | refine lx_lst' ?_ | refine lx_tup' ?_ | refine lx_cb ?_ ?_ | refine lx_B ?_ | refine lx_and ?_ ?_ | refine lx_or ?_ ?_ | refine lx_not ?_ | refine lx_andV ?_ ?_ | refine lx_orV ?_ ?_ | refine lx_notV ?_ | refine lx_if ?_ ?_ ?_ | refine lx_chain ?_ ?_ ?_ ?_ ?_ | refine lx_call ?_ ?_ | refine lx_make' ?_ ?_ | refine lx_fld ?_ | refine lx_bm ?_ ?_ ?_ | refine lx_meth ?_ ?_ ?_ | refine lx_is ?_ ?_ ?_ | refine lx_sl' ?_ ?_ ?_ | refine lx_part ?_ | refine lx_rev' ?_ | exact lx_dnew' | refine lx_disp' ?_ ?_ | refine lx_listRg' ?_ | refine lx_dget ?_ ?_ | refine lx_din ?_ ?_ | refine lx_itList ?_ | refine lx_itTup ?_ | refine lx_itRng ?_ | refine lx_itEnum ?_ | refine lx_itZip ?_ ?_ | refine lx_lc' ?_ ?_ ?_ ?_ | refine lx_lcK' ?_ ?_ ?_ | refine lx_lcW' ?_ ?_ ?_ ?_ | refine lx_callW' ?_ ?_ | refine lx_callV ?_ ?_ | exact lx_lam' | exact lx_lam0' | exact lt_nil' | refine lt_cons' ?_ ?_ | refine lf_mk ?_ | refine lf_gc ?_ | refine lf_mkW' ?_ | refine lf_lam ?_ | exact rfl)
def c_evenest : Fn := gcF (mkFn 2 6 (sSeq (sExpr (iCall c_check_tasks (iCons (iVar 0) (iCons (iVar 1) iNil))))
  (sSeq (sAsg (iC (.int 0)) (ctgName 2))
  (sSeq (sAsg (cLst iNil) (ctgName 3))
  (sSeq (sAsg (iCall c_share (iCons (iVar 0) (iCons (iVar 1) (iCons (iOp cMulF (cLst (iCons (iC (.int 0)) iNil)) (iVar 0)) iNil)))) (tgTupN 2 [(ctgName 4), (ctgName 5)]))
  (sSeq (cWhile 400 (iB (iOp fNe (iVar 5) (cLst iNil))) (sSeq (sAsg (iVar 5) (ctgName 3))
  (sSeq (csAug 2 (iC (.int 1)))
  (sAsg (iCall c_share (iCons (iVar 0) (iCons (iVar 1) (iCons (iOp cMulF (cLst (iCons (iVar 2) iNil)) (iVar 0)) iNil)))) (tgTupN 2 [(ctgName 4), (ctgName 5)])))))
  (sRet (cMake "Even" c_Even_init (iCons (iVar 4) (iCons (iVar 3) iNil))))))))))
theorem le_i_evenest : Lf c_evenest i_evenest := by
  unfold c_evenest i_evenest; repeat' (with_reducible first | exact Lx.refl _ | exact Ls.refl _ | exact Lf.refl _ | exact Lo.refl _ | exact le_i_Even_init | exact le_i_check_tasks | exact le_i_share | exact lo_lt | exact lo_le | exact lo_gt | exact lo_ge | exact lo_mul' | exact lo_add' | exact lf_sorted' | exact lf_sortedD' | exact lf_sortedSet' | exact lf_list' | exact lo_append' | exact lo_extend' | exact lo_pop' | exact lo_reverse' | exact tg_name' | exact tg_sub' | exact tg_nil' | refine tg_tup' ?_ | refine tg_cons' ?_ ?_ | refine ls_seq ?_ ?_ | refine ls_asg' ?_ ?_ | refine ls_if ?_ ?_ ?_ | refine ls_ret ?_ | refine ls_expr ?_ | refine ls_for' ?_ ?_ ?_ | refine ls_while ?_ ?_ | refine ls_par ?_ | refine ls_par3 ?_ | refine ls_try ?_ ?_ | refine ls_fldSet' ?_ ?_ | refine ls_dset' ?_ ?_ ?_ | refine ls_aug' ?_ | refine ls_augS' ?_ ?_ ?_ | refine lx_op ?_ ?_ ?_ | refine lx_un ?_ | refine lx_cons ?_ ?_ | refine lx_lst' ?_ | refine lx_tup' ?_ | refine lx_cb ?_ ?_ | refine lx_B ?_ | refine lx_and ?_ ?_ | refine lx_or ?_ ?_ | refine lx_not ?_ | refine lx_andV ?_ ?_ | refine lx_orV ?_ ?_ | refine lx_notV ?_ | refine lx_if ?_ ?_ ?_ | refine lx_chain ?_ ?_ ?_ ?_ ?_ | refine lx_call ?_ ?_ | refine lx_make' ?_ ?_ | refine lx_fld ?_ | refine lx_bm ?_ ?_ ?_ | refine lx_meth ?_ ?_ ?_ | refine lx_is ?_ ?_ ?_ | refine lx_sl' ?_ ?_ ?_ | refine lx_part ?_ | refine lx_rev' ?_ | exact lx_dnew' | refine lx_disp' ?_ ?_ | refine lx_listRg' ?_ | refine lx_dget ?_ ?_ | refine lx_din ?_ ?_ | refine lx_itList ?_ | refine lx_itTup ?_ | refine lx_itRng ?_ | refine lx_itEnum ?_ | refine lx_itZip ?_ ?_ | refine lx_lc' ?_ ?_ ?_ ?_ | refine lx_lcK' ?_ ?_ ?_ | refine lx_lcW' ?_ ?_ ?_ ?_ | refine lx_callW' ?_ ?_ | refine lx_callV ?_ ?_ | exact lx_lam' | exact lx_lam0' | exact lt_nil' | refine lt_cons' ?_ ?_ | refine lf_mk ?_ | refine lf_gc ?_ | refine lf_mkW' ?_ | refine lf_lam ?_ | exact rfl)
def c_passed : Fn := gcF (mkFn 5 7 (sSeq (sExpr (iCall c_check_tasks (iCons (iVar 0) (iCons (iVar 1) iNil))))
  (sSeq (sExpr (iCall c_check_sharing (iCons (iVar 1) (iCons (iVar 2) iNil))))
  (sSeq (sFor (itTup (cTup (iCons (iVar 3) (iCons (iVar 4) iNil)))) (ctgName 5) (sIf (iOr (iNot (iB (iCall c_is_number (iCons (iVar 5) (iCons (iC (.int 0)) iNil))))) (iB (iOp fGeB (iVar 5) (iVar 0)))) (sRaise "BadPerson") sNext))
  (sSeq (sIf (iB (iOp fEq (iVar 3) (iVar 4))) (sRaise "BadPerson") sNext)
  (sSeq (sAsg (iCall c_came_from (iCons (iVar 1) (iCons (iVar 2) (iCons (cLst (iCons (iVar 3) iNil)) iNil)))) (ctgName 6))
  (sSeq (sIf (iB (iDIn true (iVar 4) (iVar 6))) (sRet (cMake "Side" c_Side_init (iCons (iCB cSortedDF (iCons (iVar 6) iNil)) iNil))) sNext)
  (sRet (cMake "Chain" c_Chain_init (iCons (iCall c_chain_to (iCons (iVar 1) (iCons (iVar 6) (iCons (iVar 4) iNil)))) iNil))))))))))
theorem le_i_passed : Lf c_passed i_passed := by
  unfold c_passed i_passed; repeat' (with_reducible first | exact Lx.refl _ | exact Ls.refl _ | exact Lf.refl _ | exact Lo.refl _ | exact le_i_Chain_init | exact le_i_Side_init | exact le_i_came_from | exact le_i_chain_to | exact le_i_check_sharing | exact le_i_check_tasks | exact le_i_is_number | exact lo_lt | exact lo_le | exact lo_gt | exact lo_ge | exact lo_mul' | exact lo_add' | exact lf_sorted' | exact lf_sortedD' | exact lf_sortedSet' | exact lf_list' | exact lo_append' | exact lo_extend' | exact lo_pop' | exact lo_reverse' | exact tg_name' | exact tg_sub' | exact tg_nil' | refine tg_tup' ?_ | refine tg_cons' ?_ ?_ | refine ls_seq ?_ ?_ | refine ls_asg' ?_ ?_ | refine ls_if ?_ ?_ ?_ | refine ls_ret ?_ | refine ls_expr ?_ | refine ls_for' ?_ ?_ ?_ | refine ls_while ?_ ?_ | refine ls_par ?_ | refine ls_par3 ?_ | refine ls_try ?_ ?_ | refine ls_fldSet' ?_ ?_ | refine ls_dset' ?_ ?_ ?_ | refine ls_aug' ?_ | refine ls_augS' ?_ ?_ ?_ | refine lx_op ?_ ?_ ?_ | refine lx_un ?_ | refine lx_cons ?_ ?_ | refine lx_lst' ?_ | refine lx_tup' ?_ | refine lx_cb ?_ ?_ | refine lx_B ?_ | refine lx_and ?_ ?_ | refine lx_or ?_ ?_ | refine lx_not ?_ | refine lx_andV ?_ ?_ | refine lx_orV ?_ ?_ | refine lx_notV ?_ | refine lx_if ?_ ?_ ?_ | refine lx_chain ?_ ?_ ?_ ?_ ?_ | refine lx_call ?_ ?_ | refine lx_make' ?_ ?_ | refine lx_fld ?_ | refine lx_bm ?_ ?_ ?_ | refine lx_meth ?_ ?_ ?_ | refine lx_is ?_ ?_ ?_ | refine lx_sl' ?_ ?_ ?_ | refine lx_part ?_ | refine lx_rev' ?_ | exact lx_dnew' | refine lx_disp' ?_ ?_ | refine lx_listRg' ?_ | refine lx_dget ?_ ?_ | refine lx_din ?_ ?_ | refine lx_itList ?_ | refine lx_itTup ?_ | refine lx_itRng ?_ | refine lx_itEnum ?_ | refine lx_itZip ?_ ?_ | refine lx_lc' ?_ ?_ ?_ ?_ | refine lx_lcK' ?_ ?_ ?_ | refine lx_lcW' ?_ ?_ ?_ ?_ | refine lx_callW' ?_ ?_ | refine lx_callV ?_ ?_ | exact lx_lam' | exact lx_lam0' | exact lt_nil' | refine lt_cons' ?_ ?_ | refine lf_mk ?_ | refine lf_gc ?_ | refine lf_mkW' ?_ | refine lf_lam ?_ | exact rfl)
def c_rings_from : Fn := gcF (mkFn 3 9 (sSeq (sAsg (cLst iNil) (ctgName 3))
  (sSeq (sAsg (cLst iNil) (ctgName 4))
  (sSeq (sAsg (iVar 0) (ctgName 5))
  (sSeq (sAsg (cLst (iCons (iVar 0) iNil)) (ctgName 6))
  (sSeq (cWhile 400 (iOr (iB (iOp fNe (iOp fIx (iVar 1) (iVar 5)) (cLst iNil))) (iB (iOp fNe (iVar 4) (cLst iNil)))) (sSeq (sAsg (iBM cPop (iOp fIx (iVar 1) (iVar 5)) iNil) (ctgName 7))
  (sSeq (sExpr (iBM cAppend (iVar 4) (iCons (iVar 7) iNil)))
  (sSeq (sAsg (iOp fIx (iVar 2) (iVar 7)) (ctgName 5))
  (sIf (iB (iOp (fIn false) (iVar 5) (iVar 6))) (sSeq (sAsg (iBM mIndex (iVar 6) (iCons (iVar 5) iNil)) (ctgName 8))
  (sSeq (sExpr (iBM cAppend (iVar 3) (iCons (cSl (iVar 4) (iPart (iVar 8)) iNoPart) iNil)))
  (sSeq (sAsg (cSl (iVar 4) iNoPart (iPart (iVar 8))) (ctgName 4))
  (sAsg (cSl (iVar 6) iNoPart (iPart (iOp cAdd (iVar 8) (iC (.int 1))))) (ctgName 6))))) (sExpr (iBM cAppend (iVar 6) (iCons (iVar 5) iNil))))))))
  (sRet (iVar 3))))))))
theorem le_i_rings_from : Lf c_rings_from i_rings_from := by
  unfold c_rings_from i_rings_from; repeat' (with_reducible first | exact Lx.refl _ | exact Ls.refl _ | exact Lf.refl _ | exact Lo.refl _ | exact lo_lt | exact lo_le | exact lo_gt | exact lo_ge | exact lo_mul' | exact lo_add' | exact lf_sorted' | exact lf_sortedD' | exact lf_sortedSet' | exact lf_list' | exact lo_append' | exact lo_extend' | exact lo_pop' | exact lo_reverse' | exact tg_name' | exact tg_sub' | exact tg_nil' | refine tg_tup' ?_ | refine tg_cons' ?_ ?_ | refine ls_seq ?_ ?_ | refine ls_asg' ?_ ?_ | refine ls_if ?_ ?_ ?_ | refine ls_ret ?_ | refine ls_expr ?_ | refine ls_for' ?_ ?_ ?_ | refine ls_while ?_ ?_ | refine ls_par ?_ | refine ls_par3 ?_ | refine ls_try ?_ ?_ | refine ls_fldSet' ?_ ?_ | refine ls_dset' ?_ ?_ ?_ | refine ls_aug' ?_ | refine ls_augS' ?_ ?_ ?_ | refine lx_op ?_ ?_ ?_ | refine lx_un ?_ | refine lx_cons ?_ ?_ | refine lx_lst' ?_ | refine lx_tup' ?_ | refine lx_cb ?_ ?_ | refine lx_B ?_ | refine lx_and ?_ ?_ | refine lx_or ?_ ?_ | refine lx_not ?_ | refine lx_andV ?_ ?_ | refine lx_orV ?_ ?_ | refine lx_notV ?_ | refine lx_if ?_ ?_ ?_ | refine lx_chain ?_ ?_ ?_ ?_ ?_ | refine lx_call ?_ ?_ | refine lx_make' ?_ ?_ | refine lx_fld ?_ | refine lx_bm ?_ ?_ ?_ | refine lx_meth ?_ ?_ ?_ | refine lx_is ?_ ?_ ?_ | refine lx_sl' ?_ ?_ ?_ | refine lx_part ?_ | refine lx_rev' ?_ | exact lx_dnew' | refine lx_disp' ?_ ?_ | refine lx_listRg' ?_ | refine lx_dget ?_ ?_ | refine lx_din ?_ ?_ | refine lx_itList ?_ | refine lx_itTup ?_ | refine lx_itRng ?_ | refine lx_itEnum ?_ | refine lx_itZip ?_ ?_ | refine lx_lc' ?_ ?_ ?_ ?_ | refine lx_lcK' ?_ ?_ ?_ | refine lx_lcW' ?_ ?_ ?_ ?_ | refine lx_callW' ?_ ?_ | refine lx_callV ?_ ?_ | exact lx_lam' | exact lx_lam0' | exact lt_nil' | refine lt_cons' ?_ ?_ | refine lf_mk ?_ | refine lf_gc ?_ | refine lf_mkW' ?_ | refine lf_lam ?_ | exact rfl)
def c_rings : Fn := gcF (mkFn 4 9 (sSeq (sExpr (iCall c_check_tasks (iCons (iVar 0) (iCons (iVar 1) iNil))))
  (sSeq (sExpr (iCall c_check_sharing (iCons (iVar 1) (iCons (iVar 2) iNil))))
  (sSeq (sExpr (iCall c_check_sharing (iCons (iVar 1) (iCons (iVar 3) iNil))))
  (sSeq (sIf (iB (iOp fNe (iCall c_loads_of (iCons (iVar 0) (iCons (iVar 2) iNil))) (iCall c_loads_of (iCons (iVar 0) (iCons (iVar 3) iNil))))) (sRaise "Unlike") sNext)
  (sSeq (sAsg (cLc (itRng (iVar 0)) (ctgName 8) iYes (cLst iNil) [8]) (ctgName 4))
  (sSeq (sFor (itEnum (iVar 2)) (tgTupN 2 [(ctgName 5), (ctgName 6)]) (sIf (iB (iOp fNe (iOp fIx (iVar 3) (iVar 5)) (iVar 6))) (sExpr (iBM cAppend (iOp fIx (iVar 4) (iVar 6)) (iCons (iVar 5) iNil))) sNext))
  (sSeq (sAsg (cLst iNil) (ctgName 7))
  (sSeq (sFor (itRng (iVar 0)) (ctgName 8) (cWhile 400 (iB (iOp fNe (iOp fIx (iVar 4) (iVar 8)) (cLst iNil))) (sExpr (iBM cExtend (iVar 7) (iCons (iCall c_rings_from (iCons (iVar 8) (iCons (iVar 4) (iCons (iVar 3) iNil)))) iNil)))))
  (sRet (iVar 7)))))))))))
theorem le_i_rings : Lf c_rings i_rings := by
  unfold c_rings i_rings; repeat' (with_reducible first | exact Lx.refl _ | exact Ls.refl _ | exact Lf.refl _ | exact Lo.refl _ | exact le_i_check_sharing | exact le_i_check_tasks | exact le_i_loads_of | exact le_i_rings_from | exact lo_lt | exact lo_le | exact lo_gt | exact lo_ge | exact lo_mul' | exact lo_add' | exact lf_sorted' | exact lf_sortedD' | exact lf_sortedSet' | exact lf_list' | exact lo_append' | exact lo_extend' | exact lo_pop' | exact lo_reverse' | exact tg_name' | exact tg_sub' | exact tg_nil' | refine tg_tup' ?_ | refine tg_cons' ?_ ?_ | refine ls_seq ?_ ?_ | refine ls_asg' ?_ ?_ | refine ls_if ?_ ?_ ?_ | refine ls_ret ?_ | refine ls_expr ?_ | refine ls_for' ?_ ?_ ?_ | refine ls_while ?_ ?_ | refine ls_par ?_ | refine ls_par3 ?_ | refine ls_try ?_ ?_ | refine ls_fldSet' ?_ ?_ | refine ls_dset' ?_ ?_ ?_ | refine ls_aug' ?_ | refine ls_augS' ?_ ?_ ?_ | refine lx_op ?_ ?_ ?_ | refine lx_un ?_ | refine lx_cons ?_ ?_ | refine lx_lst' ?_ | refine lx_tup' ?_ | refine lx_cb ?_ ?_ | refine lx_B ?_ | refine lx_and ?_ ?_ | refine lx_or ?_ ?_ | refine lx_not ?_ | refine lx_andV ?_ ?_ | refine lx_orV ?_ ?_ | refine lx_notV ?_ | refine lx_if ?_ ?_ ?_ | refine lx_chain ?_ ?_ ?_ ?_ ?_ | refine lx_call ?_ ?_ | refine lx_make' ?_ ?_ | refine lx_fld ?_ | refine lx_bm ?_ ?_ ?_ | refine lx_meth ?_ ?_ ?_ | refine lx_is ?_ ?_ ?_ | refine lx_sl' ?_ ?_ ?_ | refine lx_part ?_ | refine lx_rev' ?_ | exact lx_dnew' | refine lx_disp' ?_ ?_ | refine lx_listRg' ?_ | refine lx_dget ?_ ?_ | refine lx_din ?_ ?_ | refine lx_itList ?_ | refine lx_itTup ?_ | refine lx_itRng ?_ | refine lx_itEnum ?_ | refine lx_itZip ?_ ?_ | refine lx_lc' ?_ ?_ ?_ ?_ | refine lx_lcK' ?_ ?_ ?_ | refine lx_lcW' ?_ ?_ ?_ ?_ | refine lx_callW' ?_ ?_ | refine lx_callV ?_ ?_ | exact lx_lam' | exact lx_lam0' | exact lt_nil' | refine lt_cons' ?_ ?_ | refine lf_mk ?_ | refine lf_gc ?_ | refine lf_mkW' ?_ | refine lf_lam ?_ | exact rfl)
def c_lam0 : LFn := mkLam 1 0 1 (iCall c_loads (iCons (iVar 0) (iCons (iC .non) (iCons (iC .non) iNil))))
theorem le_i_lam0 : ∀ cs, Lf (c_lam0 cs) (i_lam0 cs) := by
  unfold c_lam0 i_lam0; repeat' (with_reducible first | exact Lx.refl _ | exact Ls.refl _ | exact Lf.refl _ | exact Lo.refl _ | exact le_i_loads | exact lo_lt | exact lo_le | exact lo_gt | exact lo_ge | exact lo_mul' | exact lo_add' | exact lf_sorted' | exact lf_sortedD' | exact lf_sortedSet' | exact lf_list' | exact lo_append' | exact lo_extend' | exact lo_pop' | exact lo_reverse' | exact tg_name' | exact tg_sub' | exact tg_nil' | refine tg_tup' ?_ | refine tg_cons' ?_ ?_ | refine ls_seq ?_ ?_ | refine ls_asg' ?_ ?_ | refine ls_if ?_ ?_ ?_ | refine ls_ret ?_ | refine ls_expr ?_ | refine ls_for' ?_ ?_ ?_ | refine ls_while ?_ ?_ | refine ls_par ?_ | refine ls_par3 ?_ | refine ls_try ?_ ?_ | refine ls_fldSet' ?_ ?_ | refine ls_dset' ?_ ?_ ?_ | refine ls_aug' ?_ | refine ls_augS' ?_ ?_ ?_ | refine lx_op ?_ ?_ ?_ | refine lx_un ?_ | refine lx_cons ?_ ?_ | refine lx_lst' ?_ | refine lx_tup' ?_ | refine lx_cb ?_ ?_ | refine lx_B ?_ | refine lx_and ?_ ?_ | refine lx_or ?_ ?_ | refine lx_not ?_ | refine lx_andV ?_ ?_ | refine lx_orV ?_ ?_ | refine lx_notV ?_ | refine lx_if ?_ ?_ ?_ | refine lx_chain ?_ ?_ ?_ ?_ ?_ | refine lx_call ?_ ?_ | refine lx_make' ?_ ?_ | refine lx_fld ?_ | refine lx_bm ?_ ?_ ?_ | refine lx_meth ?_ ?_ ?_ | refine lx_is ?_ ?_ ?_ | refine lx_sl' ?_ ?_ ?_ | refine lx_part ?_ | refine lx_rev' ?_ | exact lx_dnew' | refine lx_disp' ?_ ?_ | refine lx_listRg' ?_ | refine lx_dget ?_ ?_ | refine lx_din ?_ ?_ | refine lx_itList ?_ | refine lx_itTup ?_ | refine lx_itRng ?_ | refine lx_itEnum ?_ | refine lx_itZip ?_ ?_ | refine lx_lc' ?_ ?_ ?_ ?_ | refine lx_lcK' ?_ ?_ ?_ | refine lx_lcW' ?_ ?_ ?_ ?_ | refine lx_callW' ?_ ?_ | refine lx_callV ?_ ?_ | exact lx_lam' | exact lx_lam0' | exact lt_nil' | refine lt_cons' ?_ ?_ | refine lf_mk ?_ | refine lf_gc ?_ | refine lf_mkW' ?_ | refine lf_lam ?_ | exact rfl)
def c_lam1 : LFn := mkLam 1 0 1 (iCall c_shared (iCons (iC (.int 2)) (iCons (iVar 0) (iCons (iC .non) iNil))))
theorem le_i_lam1 : ∀ cs, Lf (c_lam1 cs) (i_lam1 cs) := by
  unfold c_lam1 i_lam1; repeat' (with_reducible first | exact Lx.refl _ | exact Ls.refl _ | exact Lf.refl _ | exact Lo.refl _ | exact le_i_shared | exact lo_lt | exact lo_le | exact lo_gt | exact lo_ge | exact lo_mul' | exact lo_add' | exact lf_sorted' | exact lf_sortedD' | exact lf_sortedSet' | exact lf_list' | exact lo_append' | exact lo_extend' | exact lo_pop' | exact lo_reverse' | exact tg_name' | exact tg_sub' | exact tg_nil' | refine tg_tup' ?_ | refine tg_cons' ?_ ?_ | refine ls_seq ?_ ?_ | refine ls_asg' ?_ ?_ | refine ls_if ?_ ?_ ?_ | refine ls_ret ?_ | refine ls_expr ?_ | refine ls_for' ?_ ?_ ?_ | refine ls_while ?_ ?_ | refine ls_par ?_ | refine ls_par3 ?_ | refine ls_try ?_ ?_ | refine ls_fldSet' ?_ ?_ | refine ls_dset' ?_ ?_ ?_ | refine ls_aug' ?_ | refine ls_augS' ?_ ?_ ?_ | refine lx_op ?_ ?_ ?_ | refine lx_un ?_ | refine lx_cons ?_ ?_ | refine lx_lst' ?_ | refine lx_tup' ?_ | refine lx_cb ?_ ?_ | refine lx_B ?_ | refine lx_and ?_ ?_ | refine lx_or ?_ ?_ | refine lx_not ?_ | refine lx_andV ?_ ?_ | refine lx_orV ?_ ?_ | refine lx_notV ?_ | refine lx_if ?_ ?_ ?_ | refine lx_chain ?_ ?_ ?_ ?_ ?_ | refine lx_call ?_ ?_ | refine lx_make' ?_ ?_ | refine lx_fld ?_ | refine lx_bm ?_ ?_ ?_ | refine lx_meth ?_ ?_ ?_ | refine lx_is ?_ ?_ ?_ | refine lx_sl' ?_ ?_ ?_ | refine lx_part ?_ | refine lx_rev' ?_ | exact lx_dnew' | refine lx_disp' ?_ ?_ | refine lx_listRg' ?_ | refine lx_dget ?_ ?_ | refine lx_din ?_ ?_ | refine lx_itList ?_ | refine lx_itTup ?_ | refine lx_itRng ?_ | refine lx_itEnum ?_ | refine lx_itZip ?_ ?_ | refine lx_lc' ?_ ?_ ?_ ?_ | refine lx_lcK' ?_ ?_ ?_ | refine lx_lcW' ?_ ?_ ?_ ?_ | refine lx_callW' ?_ ?_ | refine lx_callV ?_ ?_ | exact lx_lam' | exact lx_lam0' | exact lt_nil' | refine lt_cons' ?_ ?_ | refine lf_mk ?_ | refine lf_gc ?_ | refine lf_mkW' ?_ | refine lf_lam ?_ | exact rfl)
def c_lam2 : LFn := mkLam 1 1 2 (iCall c_shared (iCons (iC (.int 2)) (iCons (iVar 1) (iCons (iVar 0) iNil))))
theorem le_i_lam2 : ∀ cs, Lf (c_lam2 cs) (i_lam2 cs) := by
  unfold c_lam2 i_lam2; repeat' (with_reducible first | exact Lx.refl _ | exact Ls.refl _ | exact Lf.refl _ | exact Lo.refl _ | exact le_i_shared | exact lo_lt | exact lo_le | exact lo_gt | exact lo_ge | exact lo_mul' | exact lo_add' | exact lf_sorted' | exact lf_sortedD' | exact lf_sortedSet' | exact lf_list' | exact lo_append' | exact lo_extend' | exact lo_pop' | exact lo_reverse' | exact tg_name' | exact tg_sub' | exact tg_nil' | refine tg_tup' ?_ | refine tg_cons' ?_ ?_ | refine ls_seq ?_ ?_ | refine ls_asg' ?_ ?_ | refine ls_if ?_ ?_ ?_ | refine ls_ret ?_ | refine ls_expr ?_ | refine ls_for' ?_ ?_ ?_ | refine ls_while ?_ ?_ | refine ls_par ?_ | refine ls_par3 ?_ | refine ls_try ?_ ?_ | refine ls_fldSet' ?_ ?_ | refine ls_dset' ?_ ?_ ?_ | refine ls_aug' ?_ | refine ls_augS' ?_ ?_ ?_ | refine lx_op ?_ ?_ ?_ | refine lx_un ?_ | refine lx_cons ?_ ?_ | refine lx_lst' ?_ | refine lx_tup' ?_ | refine lx_cb ?_ ?_ | refine lx_B ?_ | refine lx_and ?_ ?_ | refine lx_or ?_ ?_ | refine lx_not ?_ | refine lx_andV ?_ ?_ | refine lx_orV ?_ ?_ | refine lx_notV ?_ | refine lx_if ?_ ?_ ?_ | refine lx_chain ?_ ?_ ?_ ?_ ?_ | refine lx_call ?_ ?_ | refine lx_make' ?_ ?_ | refine lx_fld ?_ | refine lx_bm ?_ ?_ ?_ | refine lx_meth ?_ ?_ ?_ | refine lx_is ?_ ?_ ?_ | refine lx_sl' ?_ ?_ ?_ | refine lx_part ?_ | refine lx_rev' ?_ | exact lx_dnew' | refine lx_disp' ?_ ?_ | refine lx_listRg' ?_ | refine lx_dget ?_ ?_ | refine lx_din ?_ ?_ | refine lx_itList ?_ | refine lx_itTup ?_ | refine lx_itRng ?_ | refine lx_itEnum ?_ | refine lx_itZip ?_ ?_ | refine lx_lc' ?_ ?_ ?_ ?_ | refine lx_lcK' ?_ ?_ ?_ | refine lx_lcW' ?_ ?_ ?_ ?_ | refine lx_callW' ?_ ?_ | refine lx_callV ?_ ?_ | exact lx_lam' | exact lx_lam0' | exact lt_nil' | refine lt_cons' ?_ ?_ | refine lf_mk ?_ | refine lf_gc ?_ | refine lf_mkW' ?_ | refine lf_lam ?_ | exact rfl)
def c_lam3 : LFn := mkLam 1 0 1 (iCall c_evenest (iCons (iC (.int 61)) (iCons (iVar 0) iNil)))
theorem le_i_lam3 : ∀ cs, Lf (c_lam3 cs) (i_lam3 cs) := by
  unfold c_lam3 i_lam3; repeat' (with_reducible first | exact Lx.refl _ | exact Ls.refl _ | exact Lf.refl _ | exact Lo.refl _ | exact le_i_evenest | exact lo_lt | exact lo_le | exact lo_gt | exact lo_ge | exact lo_mul' | exact lo_add' | exact lf_sorted' | exact lf_sortedD' | exact lf_sortedSet' | exact lf_list' | exact lo_append' | exact lo_extend' | exact lo_pop' | exact lo_reverse' | exact tg_name' | exact tg_sub' | exact tg_nil' | refine tg_tup' ?_ | refine tg_cons' ?_ ?_ | refine ls_seq ?_ ?_ | refine ls_asg' ?_ ?_ | refine ls_if ?_ ?_ ?_ | refine ls_ret ?_ | refine ls_expr ?_ | refine ls_for' ?_ ?_ ?_ | refine ls_while ?_ ?_ | refine ls_par ?_ | refine ls_par3 ?_ | refine ls_try ?_ ?_ | refine ls_fldSet' ?_ ?_ | refine ls_dset' ?_ ?_ ?_ | refine ls_aug' ?_ | refine ls_augS' ?_ ?_ ?_ | refine lx_op ?_ ?_ ?_ | refine lx_un ?_ | refine lx_cons ?_ ?_ | refine lx_lst' ?_ | refine lx_tup' ?_ | refine lx_cb ?_ ?_ | refine lx_B ?_ | refine lx_and ?_ ?_ | refine lx_or ?_ ?_ | refine lx_not ?_ | refine lx_andV ?_ ?_ | refine lx_orV ?_ ?_ | refine lx_notV ?_ | refine lx_if ?_ ?_ ?_ | refine lx_chain ?_ ?_ ?_ ?_ ?_ | refine lx_call ?_ ?_ | refine lx_make' ?_ ?_ | refine lx_fld ?_ | refine lx_bm ?_ ?_ ?_ | refine lx_meth ?_ ?_ ?_ | refine lx_is ?_ ?_ ?_ | refine lx_sl' ?_ ?_ ?_ | refine lx_part ?_ | refine lx_rev' ?_ | exact lx_dnew' | refine lx_disp' ?_ ?_ | refine lx_listRg' ?_ | refine lx_dget ?_ ?_ | refine lx_din ?_ ?_ | refine lx_itList ?_ | refine lx_itTup ?_ | refine lx_itRng ?_ | refine lx_itEnum ?_ | refine lx_itZip ?_ ?_ | refine lx_lc' ?_ ?_ ?_ ?_ | refine lx_lcK' ?_ ?_ ?_ | refine lx_lcW' ?_ ?_ ?_ ?_ | refine lx_callW' ?_ ?_ | refine lx_callV ?_ ?_ | exact lx_lam' | exact lx_lam0' | exact lt_nil' | refine lt_cons' ?_ ?_ | refine lf_mk ?_ | refine lf_gc ?_ | refine lf_mkW' ?_ | refine lf_lam ?_ | exact rfl)
def c_lam4 : LFn := mkLam 1 1 2 (iCall c_passed (iCons (iC (.int 2)) (iCons (iVar 1) (iCons (cLst (iCons (iC (.int 0)) iNil)) (iCons (iC (.int 0)) (iCons (iC (.int 0)) iNil))))))
theorem le_i_lam4 : ∀ cs, Lf (c_lam4 cs) (i_lam4 cs) := by
  unfold c_lam4 i_lam4; repeat' (with_reducible first | exact Lx.refl _ | exact Ls.refl _ | exact Lf.refl _ | exact Lo.refl _ | exact le_i_passed | exact lo_lt | exact lo_le | exact lo_gt | exact lo_ge | exact lo_mul' | exact lo_add' | exact lf_sorted' | exact lf_sortedD' | exact lf_sortedSet' | exact lf_list' | exact lo_append' | exact lo_extend' | exact lo_pop' | exact lo_reverse' | exact tg_name' | exact tg_sub' | exact tg_nil' | refine tg_tup' ?_ | refine tg_cons' ?_ ?_ | refine ls_seq ?_ ?_ | refine ls_asg' ?_ ?_ | refine ls_if ?_ ?_ ?_ | refine ls_ret ?_ | refine ls_expr ?_ | refine ls_for' ?_ ?_ ?_ | refine ls_while ?_ ?_ | refine ls_par ?_ | refine ls_par3 ?_ | refine ls_try ?_ ?_ | refine ls_fldSet' ?_ ?_ | refine ls_dset' ?_ ?_ ?_ | refine ls_aug' ?_ | refine ls_augS' ?_ ?_ ?_ | refine lx_op ?_ ?_ ?_ | refine lx_un ?_ | refine lx_cons ?_ ?_ | refine lx_lst' ?_ | refine lx_tup' ?_ | refine lx_cb ?_ ?_ | refine lx_B ?_ | refine lx_and ?_ ?_ | refine lx_or ?_ ?_ | refine lx_not ?_ | refine lx_andV ?_ ?_ | refine lx_orV ?_ ?_ | refine lx_notV ?_ | refine lx_if ?_ ?_ ?_ | refine lx_chain ?_ ?_ ?_ ?_ ?_ | refine lx_call ?_ ?_ | refine lx_make' ?_ ?_ | refine lx_fld ?_ | refine lx_bm ?_ ?_ ?_ | refine lx_meth ?_ ?_ ?_ | refine lx_is ?_ ?_ ?_ | refine lx_sl' ?_ ?_ ?_ | refine lx_part ?_ | refine lx_rev' ?_ | exact lx_dnew' | refine lx_disp' ?_ ?_ | refine lx_listRg' ?_ | refine lx_dget ?_ ?_ | refine lx_din ?_ ?_ | refine lx_itList ?_ | refine lx_itTup ?_ | refine lx_itRng ?_ | refine lx_itEnum ?_ | refine lx_itZip ?_ ?_ | refine lx_lc' ?_ ?_ ?_ ?_ | refine lx_lcK' ?_ ?_ ?_ | refine lx_lcW' ?_ ?_ ?_ ?_ | refine lx_callW' ?_ ?_ | refine lx_callV ?_ ?_ | exact lx_lam' | exact lx_lam0' | exact lt_nil' | refine lt_cons' ?_ ?_ | refine lf_mk ?_ | refine lf_gc ?_ | refine lf_mkW' ?_ | refine lf_lam ?_ | exact rfl)
def c_lam5 : LFn := mkLam 1 1 2 (iCall c_passed (iCons (iC (.int 2)) (iCons (iVar 1) (iCons (cLst (iCons (iC (.int 2)) iNil)) (iCons (iVar 0) (iCons (iVar 0) iNil))))))
theorem le_i_lam5 : ∀ cs, Lf (c_lam5 cs) (i_lam5 cs) := by
  unfold c_lam5 i_lam5; repeat' (with_reducible first | exact Lx.refl _ | exact Ls.refl _ | exact Lf.refl _ | exact Lo.refl _ | exact le_i_passed | exact lo_lt | exact lo_le | exact lo_gt | exact lo_ge | exact lo_mul' | exact lo_add' | exact lf_sorted' | exact lf_sortedD' | exact lf_sortedSet' | exact lf_list' | exact lo_append' | exact lo_extend' | exact lo_pop' | exact lo_reverse' | exact tg_name' | exact tg_sub' | exact tg_nil' | refine tg_tup' ?_ | refine tg_cons' ?_ ?_ | refine ls_seq ?_ ?_ | refine ls_asg' ?_ ?_ | refine ls_if ?_ ?_ ?_ | refine ls_ret ?_ | refine ls_expr ?_ | refine ls_for' ?_ ?_ ?_ | refine ls_while ?_ ?_ | refine ls_par ?_ | refine ls_par3 ?_ | refine ls_try ?_ ?_ | refine ls_fldSet' ?_ ?_ | refine ls_dset' ?_ ?_ ?_ | refine ls_aug' ?_ | refine ls_augS' ?_ ?_ ?_ | refine lx_op ?_ ?_ ?_ | refine lx_un ?_ | refine lx_cons ?_ ?_ | refine lx_lst' ?_ | refine lx_tup' ?_ | refine lx_cb ?_ ?_ | refine lx_B ?_ | refine lx_and ?_ ?_ | refine lx_or ?_ ?_ | refine lx_not ?_ | refine lx_andV ?_ ?_ | refine lx_orV ?_ ?_ | refine lx_notV ?_ | refine lx_if ?_ ?_ ?_ | refine lx_chain ?_ ?_ ?_ ?_ ?_ | refine lx_call ?_ ?_ | refine lx_make' ?_ ?_ | refine lx_fld ?_ | refine lx_bm ?_ ?_ ?_ | refine lx_meth ?_ ?_ ?_ | refine lx_is ?_ ?_ ?_ | refine lx_sl' ?_ ?_ ?_ | refine lx_part ?_ | refine lx_rev' ?_ | exact lx_dnew' | refine lx_disp' ?_ ?_ | refine lx_listRg' ?_ | refine lx_dget ?_ ?_ | refine lx_din ?_ ?_ | refine lx_itList ?_ | refine lx_itTup ?_ | refine lx_itRng ?_ | refine lx_itEnum ?_ | refine lx_itZip ?_ ?_ | refine lx_lc' ?_ ?_ ?_ ?_ | refine lx_lcK' ?_ ?_ ?_ | refine lx_lcW' ?_ ?_ ?_ ?_ | refine lx_callW' ?_ ?_ | refine lx_callV ?_ ?_ | exact lx_lam' | exact lx_lam0' | exact lt_nil' | refine lt_cons' ?_ ?_ | refine lf_mk ?_ | refine lf_gc ?_ | refine lf_mkW' ?_ | refine lf_lam ?_ | exact rfl)
def c_lam6 : LFn := mkLam 1 1 2 (iCall c_rings (iCons (iC (.int 2)) (iCons (iVar 1) (iCons (cLst (iCons (iC (.int 0)) iNil)) (iCons (cLst (iCons (iC (.int 1)) iNil)) iNil)))))
theorem le_i_lam6 : ∀ cs, Lf (c_lam6 cs) (i_lam6 cs) := by
  unfold c_lam6 i_lam6; repeat' (with_reducible first | exact Lx.refl _ | exact Ls.refl _ | exact Lf.refl _ | exact Lo.refl _ | exact le_i_rings | exact lo_lt | exact lo_le | exact lo_gt | exact lo_ge | exact lo_mul' | exact lo_add' | exact lf_sorted' | exact lf_sortedD' | exact lf_sortedSet' | exact lf_list' | exact lo_append' | exact lo_extend' | exact lo_pop' | exact lo_reverse' | exact tg_name' | exact tg_sub' | exact tg_nil' | refine tg_tup' ?_ | refine tg_cons' ?_ ?_ | refine ls_seq ?_ ?_ | refine ls_asg' ?_ ?_ | refine ls_if ?_ ?_ ?_ | refine ls_ret ?_ | refine ls_expr ?_ | refine ls_for' ?_ ?_ ?_ | refine ls_while ?_ ?_ | refine ls_par ?_ | refine ls_par3 ?_ | refine ls_try ?_ ?_ | refine ls_fldSet' ?_ ?_ | refine ls_dset' ?_ ?_ ?_ | refine ls_aug' ?_ | refine ls_augS' ?_ ?_ ?_ | refine lx_op ?_ ?_ ?_ | refine lx_un ?_ | refine lx_cons ?_ ?_ | refine lx_lst' ?_ | refine lx_tup' ?_ | refine lx_cb ?_ ?_ | refine lx_B ?_ | refine lx_and ?_ ?_ | refine lx_or ?_ ?_ | refine lx_not ?_ | refine lx_andV ?_ ?_ | refine lx_orV ?_ ?_ | refine lx_notV ?_ | refine lx_if ?_ ?_ ?_ | refine lx_chain ?_ ?_ ?_ ?_ ?_ | refine lx_call ?_ ?_ | refine lx_make' ?_ ?_ | refine lx_fld ?_ | refine lx_bm ?_ ?_ ?_ | refine lx_meth ?_ ?_ ?_ | refine lx_is ?_ ?_ ?_ | refine lx_sl' ?_ ?_ ?_ | refine lx_part ?_ | refine lx_rev' ?_ | exact lx_dnew' | refine lx_disp' ?_ ?_ | refine lx_listRg' ?_ | refine lx_dget ?_ ?_ | refine lx_din ?_ ?_ | refine lx_itList ?_ | refine lx_itTup ?_ | refine lx_itRng ?_ | refine lx_itEnum ?_ | refine lx_itZip ?_ ?_ | refine lx_lc' ?_ ?_ ?_ ?_ | refine lx_lcK' ?_ ?_ ?_ | refine lx_lcW' ?_ ?_ ?_ ?_ | refine lx_callW' ?_ ?_ | refine lx_callV ?_ ?_ | exact lx_lam' | exact lx_lam0' | exact lt_nil' | refine lt_cons' ?_ ?_ | refine lf_mk ?_ | refine lf_gc ?_ | refine lf_mkW' ?_ | refine lf_lam ?_ | exact rfl)
def c_lam7 : LFn := mkLam 1 1 2 (iCall c_rings (iCons (iC (.int 2)) (iCons (iVar 1) (iCons (iVar 0) (iCons (cLst (iCons (iC (.int 0)) iNil)) iNil)))))
theorem le_i_lam7 : ∀ cs, Lf (c_lam7 cs) (i_lam7 cs) := by
  unfold c_lam7 i_lam7; repeat' (with_reducible first | exact Lx.refl _ | exact Ls.refl _ | exact Lf.refl _ | exact Lo.refl _ | exact le_i_rings | exact lo_lt | exact lo_le | exact lo_gt | exact lo_ge | exact lo_mul' | exact lo_add' | exact lf_sorted' | exact lf_sortedD' | exact lf_sortedSet' | exact lf_list' | exact lo_append' | exact lo_extend' | exact lo_pop' | exact lo_reverse' | exact tg_name' | exact tg_sub' | exact tg_nil' | refine tg_tup' ?_ | refine tg_cons' ?_ ?_ | refine ls_seq ?_ ?_ | refine ls_asg' ?_ ?_ | refine ls_if ?_ ?_ ?_ | refine ls_ret ?_ | refine ls_expr ?_ | refine ls_for' ?_ ?_ ?_ | refine ls_while ?_ ?_ | refine ls_par ?_ | refine ls_par3 ?_ | refine ls_try ?_ ?_ | refine ls_fldSet' ?_ ?_ | refine ls_dset' ?_ ?_ ?_ | refine ls_aug' ?_ | refine ls_augS' ?_ ?_ ?_ | refine lx_op ?_ ?_ ?_ | refine lx_un ?_ | refine lx_cons ?_ ?_ | refine lx_lst' ?_ | refine lx_tup' ?_ | refine lx_cb ?_ ?_ | refine lx_B ?_ | refine lx_and ?_ ?_ | refine lx_or ?_ ?_ | refine lx_not ?_ | refine lx_andV ?_ ?_ | refine lx_orV ?_ ?_ | refine lx_notV ?_ | refine lx_if ?_ ?_ ?_ | refine lx_chain ?_ ?_ ?_ ?_ ?_ | refine lx_call ?_ ?_ | refine lx_make' ?_ ?_ | refine lx_fld ?_ | refine lx_bm ?_ ?_ ?_ | refine lx_meth ?_ ?_ ?_ | refine lx_is ?_ ?_ ?_ | refine lx_sl' ?_ ?_ ?_ | refine lx_part ?_ | refine lx_rev' ?_ | exact lx_dnew' | refine lx_disp' ?_ ?_ | refine lx_listRg' ?_ | refine lx_dget ?_ ?_ | refine lx_din ?_ ?_ | refine lx_itList ?_ | refine lx_itTup ?_ | refine lx_itRng ?_ | refine lx_itEnum ?_ | refine lx_itZip ?_ ?_ | refine lx_lc' ?_ ?_ ?_ ?_ | refine lx_lcK' ?_ ?_ ?_ | refine lx_lcW' ?_ ?_ ?_ ?_ | refine lx_callW' ?_ ?_ | refine lx_callV ?_ ?_ | exact lx_lam' | exact lx_lam0' | exact lt_nil' | refine lt_cons' ?_ ?_ | refine lf_mk ?_ | refine lf_gc ?_ | refine lf_mkW' ?_ | refine lf_lam ?_ | exact rfl)
def c_lam8 : LFn := mkLam 1 1 2 (iCall c_rings (iCons (iC (.int 2)) (iCons (iVar 1) (iCons (cLst (iCons (iC (.int 0)) iNil)) (iCons (iVar 0) iNil)))))
theorem le_i_lam8 : ∀ cs, Lf (c_lam8 cs) (i_lam8 cs) := by
  unfold c_lam8 i_lam8; repeat' (with_reducible first | exact Lx.refl _ | exact Ls.refl _ | exact Lf.refl _ | exact Lo.refl _ | exact le_i_rings | exact lo_lt | exact lo_le | exact lo_gt | exact lo_ge | exact lo_mul' | exact lo_add' | exact lf_sorted' | exact lf_sortedD' | exact lf_sortedSet' | exact lf_list' | exact lo_append' | exact lo_extend' | exact lo_pop' | exact lo_reverse' | exact tg_name' | exact tg_sub' | exact tg_nil' | refine tg_tup' ?_ | refine tg_cons' ?_ ?_ | refine ls_seq ?_ ?_ | refine ls_asg' ?_ ?_ | refine ls_if ?_ ?_ ?_ | refine ls_ret ?_ | refine ls_expr ?_ | refine ls_for' ?_ ?_ ?_ | refine ls_while ?_ ?_ | refine ls_par ?_ | refine ls_par3 ?_ | refine ls_try ?_ ?_ | refine ls_fldSet' ?_ ?_ | refine ls_dset' ?_ ?_ ?_ | refine ls_aug' ?_ | refine ls_augS' ?_ ?_ ?_ | refine lx_op ?_ ?_ ?_ | refine lx_un ?_ | refine lx_cons ?_ ?_ | refine lx_lst' ?_ | refine lx_tup' ?_ | refine lx_cb ?_ ?_ | refine lx_B ?_ | refine lx_and ?_ ?_ | refine lx_or ?_ ?_ | refine lx_not ?_ | refine lx_andV ?_ ?_ | refine lx_orV ?_ ?_ | refine lx_notV ?_ | refine lx_if ?_ ?_ ?_ | refine lx_chain ?_ ?_ ?_ ?_ ?_ | refine lx_call ?_ ?_ | refine lx_make' ?_ ?_ | refine lx_fld ?_ | refine lx_bm ?_ ?_ ?_ | refine lx_meth ?_ ?_ ?_ | refine lx_is ?_ ?_ ?_ | refine lx_sl' ?_ ?_ ?_ | refine lx_part ?_ | refine lx_rev' ?_ | exact lx_dnew' | refine lx_disp' ?_ ?_ | refine lx_listRg' ?_ | refine lx_dget ?_ ?_ | refine lx_din ?_ ?_ | refine lx_itList ?_ | refine lx_itTup ?_ | refine lx_itRng ?_ | refine lx_itEnum ?_ | refine lx_itZip ?_ ?_ | refine lx_lc' ?_ ?_ ?_ ?_ | refine lx_lcK' ?_ ?_ ?_ | refine lx_lcW' ?_ ?_ ?_ ?_ | refine lx_callW' ?_ ?_ | refine lx_callV ?_ ?_ | exact lx_lam' | exact lx_lam0' | exact lt_nil' | refine lt_cons' ?_ ?_ | refine lf_mk ?_ | refine lf_gc ?_ | refine lf_mkW' ?_ | refine lf_lam ?_ | exact rfl)
def c_lam9 : LFn := mkLam 1 1 2 (iCall c_passed (iCons (iC (.int 2)) (iCons (iVar 1) (iCons (cLst (iCons (iC (.int 0)) iNil)) (iCons (iC (.int 0)) (iCons (iVar 0) iNil))))))
theorem le_i_lam9 : ∀ cs, Lf (c_lam9 cs) (i_lam9 cs) := by
  unfold c_lam9 i_lam9; repeat' (with_reducible first | exact Lx.refl _ | exact Ls.refl _ | exact Lf.refl _ | exact Lo.refl _ | exact le_i_passed | exact lo_lt | exact lo_le | exact lo_gt | exact lo_ge | exact lo_mul' | exact lo_add' | exact lf_sorted' | exact lf_sortedD' | exact lf_sortedSet' | exact lf_list' | exact lo_append' | exact lo_extend' | exact lo_pop' | exact lo_reverse' | exact tg_name' | exact tg_sub' | exact tg_nil' | refine tg_tup' ?_ | refine tg_cons' ?_ ?_ | refine ls_seq ?_ ?_ | refine ls_asg' ?_ ?_ | refine ls_if ?_ ?_ ?_ | refine ls_ret ?_ | refine ls_expr ?_ | refine ls_for' ?_ ?_ ?_ | refine ls_while ?_ ?_ | refine ls_par ?_ | refine ls_par3 ?_ | refine ls_try ?_ ?_ | refine ls_fldSet' ?_ ?_ | refine ls_dset' ?_ ?_ ?_ | refine ls_aug' ?_ | refine ls_augS' ?_ ?_ ?_ | refine lx_op ?_ ?_ ?_ | refine lx_un ?_ | refine lx_cons ?_ ?_ | refine lx_lst' ?_ | refine lx_tup' ?_ | refine lx_cb ?_ ?_ | refine lx_B ?_ | refine lx_and ?_ ?_ | refine lx_or ?_ ?_ | refine lx_not ?_ | refine lx_andV ?_ ?_ | refine lx_orV ?_ ?_ | refine lx_notV ?_ | refine lx_if ?_ ?_ ?_ | refine lx_chain ?_ ?_ ?_ ?_ ?_ | refine lx_call ?_ ?_ | refine lx_make' ?_ ?_ | refine lx_fld ?_ | refine lx_bm ?_ ?_ ?_ | refine lx_meth ?_ ?_ ?_ | refine lx_is ?_ ?_ ?_ | refine lx_sl' ?_ ?_ ?_ | refine lx_part ?_ | refine lx_rev' ?_ | exact lx_dnew' | refine lx_disp' ?_ ?_ | refine lx_listRg' ?_ | refine lx_dget ?_ ?_ | refine lx_din ?_ ?_ | refine lx_itList ?_ | refine lx_itTup ?_ | refine lx_itRng ?_ | refine lx_itEnum ?_ | refine lx_itZip ?_ ?_ | refine lx_lc' ?_ ?_ ?_ ?_ | refine lx_lcK' ?_ ?_ ?_ | refine lx_lcW' ?_ ?_ ?_ ?_ | refine lx_callW' ?_ ?_ | refine lx_callV ?_ ?_ | exact lx_lam' | exact lx_lam0' | exact lt_nil' | refine lt_cons' ?_ ?_ | refine lf_mk ?_ | refine lf_gc ?_ | refine lf_mkW' ?_ | refine lf_lam ?_ | exact rfl)
def c_lam10 : LFn := mkLam 1 1 2 (iCall c_passed (iCons (iC (.int 2)) (iCons (iVar 1) (iCons (cLst (iCons (iC (.int 0)) iNil)) (iCons (iVar 0) (iCons (iC (.int 0)) iNil))))))
theorem le_i_lam10 : ∀ cs, Lf (c_lam10 cs) (i_lam10 cs) := by
  unfold c_lam10 i_lam10; repeat' (with_reducible first | exact Lx.refl _ | exact Ls.refl _ | exact Lf.refl _ | exact Lo.refl _ | exact le_i_passed | exact lo_lt | exact lo_le | exact lo_gt | exact lo_ge | exact lo_mul' | exact lo_add' | exact lf_sorted' | exact lf_sortedD' | exact lf_sortedSet' | exact lf_list' | exact lo_append' | exact lo_extend' | exact lo_pop' | exact lo_reverse' | exact tg_name' | exact tg_sub' | exact tg_nil' | refine tg_tup' ?_ | refine tg_cons' ?_ ?_ | refine ls_seq ?_ ?_ | refine ls_asg' ?_ ?_ | refine ls_if ?_ ?_ ?_ | refine ls_ret ?_ | refine ls_expr ?_ | refine ls_for' ?_ ?_ ?_ | refine ls_while ?_ ?_ | refine ls_par ?_ | refine ls_par3 ?_ | refine ls_try ?_ ?_ | refine ls_fldSet' ?_ ?_ | refine ls_dset' ?_ ?_ ?_ | refine ls_aug' ?_ | refine ls_augS' ?_ ?_ ?_ | refine lx_op ?_ ?_ ?_ | refine lx_un ?_ | refine lx_cons ?_ ?_ | refine lx_lst' ?_ | refine lx_tup' ?_ | refine lx_cb ?_ ?_ | refine lx_B ?_ | refine lx_and ?_ ?_ | refine lx_or ?_ ?_ | refine lx_not ?_ | refine lx_andV ?_ ?_ | refine lx_orV ?_ ?_ | refine lx_notV ?_ | refine lx_if ?_ ?_ ?_ | refine lx_chain ?_ ?_ ?_ ?_ ?_ | refine lx_call ?_ ?_ | refine lx_make' ?_ ?_ | refine lx_fld ?_ | refine lx_bm ?_ ?_ ?_ | refine lx_meth ?_ ?_ ?_ | refine lx_is ?_ ?_ ?_ | refine lx_sl' ?_ ?_ ?_ | refine lx_part ?_ | refine lx_rev' ?_ | exact lx_dnew' | refine lx_disp' ?_ ?_ | refine lx_listRg' ?_ | refine lx_dget ?_ ?_ | refine lx_din ?_ ?_ | refine lx_itList ?_ | refine lx_itTup ?_ | refine lx_itRng ?_ | refine lx_itEnum ?_ | refine lx_itZip ?_ ?_ | refine lx_lc' ?_ ?_ ?_ ?_ | refine lx_lcK' ?_ ?_ ?_ | refine lx_lcW' ?_ ?_ ?_ ?_ | refine lx_callW' ?_ ?_ | refine lx_callV ?_ ?_ | exact lx_lam' | exact lx_lam0' | exact lt_nil' | refine lt_cons' ?_ ?_ | refine lf_mk ?_ | refine lf_gc ?_ | refine lf_mkW' ?_ | refine lf_lam ?_ | exact rfl)
def c_lam11 : LFn := mkLam 1 0 1 (iCall c_evenest (iCons (iC (.int 2)) (iCons (iVar 0) iNil)))
theorem le_i_lam11 : ∀ cs, Lf (c_lam11 cs) (i_lam11 cs) := by
  unfold c_lam11 i_lam11; repeat' (with_reducible first | exact Lx.refl _ | exact Ls.refl _ | exact Lf.refl _ | exact Lo.refl _ | exact le_i_evenest | exact lo_lt | exact lo_le | exact lo_gt | exact lo_ge | exact lo_mul' | exact lo_add' | exact lf_sorted' | exact lf_sortedD' | exact lf_sortedSet' | exact lf_list' | exact lo_append' | exact lo_extend' | exact lo_pop' | exact lo_reverse' | exact tg_name' | exact tg_sub' | exact tg_nil' | refine tg_tup' ?_ | refine tg_cons' ?_ ?_ | refine ls_seq ?_ ?_ | refine ls_asg' ?_ ?_ | refine ls_if ?_ ?_ ?_ | refine ls_ret ?_ | refine ls_expr ?_ | refine ls_for' ?_ ?_ ?_ | refine ls_while ?_ ?_ | refine ls_par ?_ | refine ls_par3 ?_ | refine ls_try ?_ ?_ | refine ls_fldSet' ?_ ?_ | refine ls_dset' ?_ ?_ ?_ | refine ls_aug' ?_ | refine ls_augS' ?_ ?_ ?_ | refine lx_op ?_ ?_ ?_ | refine lx_un ?_ | refine lx_cons ?_ ?_ | refine lx_lst' ?_ | refine lx_tup' ?_ | refine lx_cb ?_ ?_ | refine lx_B ?_ | refine lx_and ?_ ?_ | refine lx_or ?_ ?_ | refine lx_not ?_ | refine lx_andV ?_ ?_ | refine lx_orV ?_ ?_ | refine lx_notV ?_ | refine lx_if ?_ ?_ ?_ | refine lx_chain ?_ ?_ ?_ ?_ ?_ | refine lx_call ?_ ?_ | refine lx_make' ?_ ?_ | refine lx_fld ?_ | refine lx_bm ?_ ?_ ?_ | refine lx_meth ?_ ?_ ?_ | refine lx_is ?_ ?_ ?_ | refine lx_sl' ?_ ?_ ?_ | refine lx_part ?_ | refine lx_rev' ?_ | exact lx_dnew' | refine lx_disp' ?_ ?_ | refine lx_listRg' ?_ | refine lx_dget ?_ ?_ | refine lx_din ?_ ?_ | refine lx_itList ?_ | refine lx_itTup ?_ | refine lx_itRng ?_ | refine lx_itEnum ?_ | refine lx_itZip ?_ ?_ | refine lx_lc' ?_ ?_ ?_ ?_ | refine lx_lcK' ?_ ?_ ?_ | refine lx_lcW' ?_ ?_ ?_ ?_ | refine lx_callW' ?_ ?_ | refine lx_callV ?_ ?_ | exact lx_lam' | exact lx_lam0' | exact lt_nil' | refine lt_cons' ?_ ?_ | refine lf_mk ?_ | refine lf_gc ?_ | refine lf_mkW' ?_ | refine lf_lam ?_ | exact rfl)
def c_lam12 : LFn := mkLam 1 1 2 (iCall c_shared (iCons (iC (.int 2)) (iCons (iVar 1) (iCons (iVar 0) iNil))))
theorem le_i_lam12 : ∀ cs, Lf (c_lam12 cs) (i_lam12 cs) := by
  unfold c_lam12 i_lam12; repeat' (with_reducible first | exact Lx.refl _ | exact Ls.refl _ | exact Lf.refl _ | exact Lo.refl _ | exact le_i_shared | exact lo_lt | exact lo_le | exact lo_gt | exact lo_ge | exact lo_mul' | exact lo_add' | exact lf_sorted' | exact lf_sortedD' | exact lf_sortedSet' | exact lf_list' | exact lo_append' | exact lo_extend' | exact lo_pop' | exact lo_reverse' | exact tg_name' | exact tg_sub' | exact tg_nil' | refine tg_tup' ?_ | refine tg_cons' ?_ ?_ | refine ls_seq ?_ ?_ | refine ls_asg' ?_ ?_ | refine ls_if ?_ ?_ ?_ | refine ls_ret ?_ | refine ls_expr ?_ | refine ls_for' ?_ ?_ ?_ | refine ls_while ?_ ?_ | refine ls_par ?_ | refine ls_par3 ?_ | refine ls_try ?_ ?_ | refine ls_fldSet' ?_ ?_ | refine ls_dset' ?_ ?_ ?_ | refine ls_aug' ?_ | refine ls_augS' ?_ ?_ ?_ | refine lx_op ?_ ?_ ?_ | refine lx_un ?_ | refine lx_cons ?_ ?_ | refine lx_lst' ?_ | refine lx_tup' ?_ | refine lx_cb ?_ ?_ | refine lx_B ?_ | refine lx_and ?_ ?_ | refine lx_or ?_ ?_ | refine lx_not ?_ | refine lx_andV ?_ ?_ | refine lx_orV ?_ ?_ | refine lx_notV ?_ | refine lx_if ?_ ?_ ?_ | refine lx_chain ?_ ?_ ?_ ?_ ?_ | refine lx_call ?_ ?_ | refine lx_make' ?_ ?_ | refine lx_fld ?_ | refine lx_bm ?_ ?_ ?_ | refine lx_meth ?_ ?_ ?_ | refine lx_is ?_ ?_ ?_ | refine lx_sl' ?_ ?_ ?_ | refine lx_part ?_ | refine lx_rev' ?_ | exact lx_dnew' | refine lx_disp' ?_ ?_ | refine lx_listRg' ?_ | refine lx_dget ?_ ?_ | refine lx_din ?_ ?_ | refine lx_itList ?_ | refine lx_itTup ?_ | refine lx_itRng ?_ | refine lx_itEnum ?_ | refine lx_itZip ?_ ?_ | refine lx_lc' ?_ ?_ ?_ ?_ | refine lx_lcK' ?_ ?_ ?_ | refine lx_lcW' ?_ ?_ ?_ ?_ | refine lx_callW' ?_ ?_ | refine lx_callV ?_ ?_ | exact lx_lam' | exact lx_lam0' | exact lt_nil' | refine lt_cons' ?_ ?_ | refine lf_mk ?_ | refine lf_gc ?_ | refine lf_mkW' ?_ | refine lf_lam ?_ | exact rfl)
def c_lam13 : LFn := mkLam 1 0 1 (iCall c_evenest (iCons (iVar 0) (iCons (cLst iNil) iNil)))
theorem le_i_lam13 : ∀ cs, Lf (c_lam13 cs) (i_lam13 cs) := by
  unfold c_lam13 i_lam13; repeat' (with_reducible first | exact Lx.refl _ | exact Ls.refl _ | exact Lf.refl _ | exact Lo.refl _ | exact le_i_evenest | exact lo_lt | exact lo_le | exact lo_gt | exact lo_ge | exact lo_mul' | exact lo_add' | exact lf_sorted' | exact lf_sortedD' | exact lf_sortedSet' | exact lf_list' | exact lo_append' | exact lo_extend' | exact lo_pop' | exact lo_reverse' | exact tg_name' | exact tg_sub' | exact tg_nil' | refine tg_tup' ?_ | refine tg_cons' ?_ ?_ | refine ls_seq ?_ ?_ | refine ls_asg' ?_ ?_ | refine ls_if ?_ ?_ ?_ | refine ls_ret ?_ | refine ls_expr ?_ | refine ls_for' ?_ ?_ ?_ | refine ls_while ?_ ?_ | refine ls_par ?_ | refine ls_par3 ?_ | refine ls_try ?_ ?_ | refine ls_fldSet' ?_ ?_ | refine ls_dset' ?_ ?_ ?_ | refine ls_aug' ?_ | refine ls_augS' ?_ ?_ ?_ | refine lx_op ?_ ?_ ?_ | refine lx_un ?_ | refine lx_cons ?_ ?_ | refine lx_lst' ?_ | refine lx_tup' ?_ | refine lx_cb ?_ ?_ | refine lx_B ?_ | refine lx_and ?_ ?_ | refine lx_or ?_ ?_ | refine lx_not ?_ | refine lx_andV ?_ ?_ | refine lx_orV ?_ ?_ | refine lx_notV ?_ | refine lx_if ?_ ?_ ?_ | refine lx_chain ?_ ?_ ?_ ?_ ?_ | refine lx_call ?_ ?_ | refine lx_make' ?_ ?_ | refine lx_fld ?_ | refine lx_bm ?_ ?_ ?_ | refine lx_meth ?_ ?_ ?_ | refine lx_is ?_ ?_ ?_ | refine lx_sl' ?_ ?_ ?_ | refine lx_part ?_ | refine lx_rev' ?_ | exact lx_dnew' | refine lx_disp' ?_ ?_ | refine lx_listRg' ?_ | refine lx_dget ?_ ?_ | refine lx_din ?_ ?_ | refine lx_itList ?_ | refine lx_itTup ?_ | refine lx_itRng ?_ | refine lx_itEnum ?_ | refine lx_itZip ?_ ?_ | refine lx_lc' ?_ ?_ ?_ ?_ | refine lx_lcK' ?_ ?_ ?_ | refine lx_lcW' ?_ ?_ ?_ ?_ | refine lx_callW' ?_ ?_ | refine lx_callV ?_ ?_ | exact lx_lam' | exact lx_lam0' | exact lt_nil' | refine lt_cons' ?_ ?_ | refine lf_mk ?_ | refine lf_gc ?_ | refine lf_mkW' ?_ | refine lf_lam ?_ | exact rfl)
def ctab__law_word__law_ask : List (Nat × LFn) := [(0, c_lam0), (1, c_lam1), (2, c_lam2), (3, c_lam3), (4, c_lam4), (5, c_lam5), (6, c_lam6), (7, c_lam7), (8, c_lam8), (9, c_lam9), (10, c_lam10), (11, c_lam11), (12, c_lam12), (13, c_lam13)]
theorem le_tab__law_word__law_ask : Lt ctab__law_word__law_ask tab__law_word__law_ask := by
  unfold ctab__law_word__law_ask tab__law_word__law_ask; repeat' (with_reducible first | exact Lx.refl _ | exact Ls.refl _ | exact Lf.refl _ | exact Lo.refl _ | exact le_i_lam0 | exact le_i_lam1 | exact le_i_lam10 | exact le_i_lam11 | exact le_i_lam12 | exact le_i_lam13 | exact le_i_lam2 | exact le_i_lam3 | exact le_i_lam4 | exact le_i_lam5 | exact le_i_lam6 | exact le_i_lam7 | exact le_i_lam8 | exact le_i_lam9 | exact lo_lt | exact lo_le | exact lo_gt | exact lo_ge | exact lo_mul' | exact lo_add' | exact lf_sorted' | exact lf_sortedD' | exact lf_sortedSet' | exact lf_list' | exact lo_append' | exact lo_extend' | exact lo_pop' | exact lo_reverse' | exact tg_name' | exact tg_sub' | exact tg_nil' | refine tg_tup' ?_ | refine tg_cons' ?_ ?_ | refine ls_seq ?_ ?_ | refine ls_asg' ?_ ?_ | refine ls_if ?_ ?_ ?_ | refine ls_ret ?_ | refine ls_expr ?_ | refine ls_for' ?_ ?_ ?_ | refine ls_while ?_ ?_ | refine ls_par ?_ | refine ls_par3 ?_ | refine ls_try ?_ ?_ | refine ls_fldSet' ?_ ?_ | refine ls_dset' ?_ ?_ ?_ | refine ls_aug' ?_ | refine ls_augS' ?_ ?_ ?_ | refine lx_op ?_ ?_ ?_ | refine lx_un ?_ | refine lx_cons ?_ ?_ | refine lx_lst' ?_ | refine lx_tup' ?_ | refine lx_cb ?_ ?_ | refine lx_B ?_ | refine lx_and ?_ ?_ | refine lx_or ?_ ?_ | refine lx_not ?_ | refine lx_andV ?_ ?_ | refine lx_orV ?_ ?_ | refine lx_notV ?_ | refine lx_if ?_ ?_ ?_ | refine lx_chain ?_ ?_ ?_ ?_ ?_ | refine lx_call ?_ ?_ | refine lx_make' ?_ ?_ | refine lx_fld ?_ | refine lx_bm ?_ ?_ ?_ | refine lx_meth ?_ ?_ ?_ | refine lx_is ?_ ?_ ?_ | refine lx_sl' ?_ ?_ ?_ | refine lx_part ?_ | refine lx_rev' ?_ | exact lx_dnew' | refine lx_disp' ?_ ?_ | refine lx_listRg' ?_ | refine lx_dget ?_ ?_ | refine lx_din ?_ ?_ | refine lx_itList ?_ | refine lx_itTup ?_ | refine lx_itRng ?_ | refine lx_itEnum ?_ | refine lx_itZip ?_ ?_ | refine lx_lc' ?_ ?_ ?_ ?_ | refine lx_lcK' ?_ ?_ ?_ | refine lx_lcW' ?_ ?_ ?_ ?_ | refine lx_callW' ?_ ?_ | refine lx_callV ?_ ?_ | exact lx_lam' | exact lx_lam0' | exact lt_nil' | refine lt_cons' ?_ ?_ | refine lf_mk ?_ | refine lf_gc ?_ | refine lf_mkW' ?_ | refine lf_lam ?_ | exact rfl)
def c__law_word : Fn := mkFn 2 5 (sSeq (sTry 2 (sExpr (iCallV 0 ctab__law_word__law_ask (iCons (iVar 1) iNil))) (sSeq (sAsg (cLst (iCons (iIsE 2 "BadLimits") (iCons (iIsE 2 "BadPeople") iNil))) (ctgName 3))
  (sSeq (sAsg (iOp cAdd (iVar 3) (cLst (iCons (iIsE 2 "BadPerson") (iCons (iIsE 2 "BadSharing") iNil)))) (ctgName 3))
  (sSeq (sAsg (iOp cAdd (iVar 3) (cLst (iCons (iIsE 2 "BadTasks") (iCons (iIsE 2 "Unlike") iNil)))) (ctgName 3))
  (sSeq (sAsg (cLst (iCons (iC (.str "limits")) (iCons (iC (.str "people")) (iCons (iC (.str "person")) (iCons (iC (.str "sharing")) (iCons (iC (.str "tasks")) (iCons (iC (.str "unlike")) iNil))))))) (ctgName 4))
  (sRet (iIf (iB (iOp (fIn false) (iC (.bl true)) (iVar 3))) (iOp fIx (iVar 4) (iBM mIndex (iVar 3) (iCons (iC (.bl true)) iNil))) (iC (.str "other")))))))))
  (sRet (iC (.str "done"))))
theorem le_i__law_word : Lf c__law_word i__law_word := by
  unfold c__law_word i__law_word; repeat' (with_reducible first | exact Lx.refl _ | exact Ls.refl _ | exact Lf.refl _ | exact Lo.refl _ | exact le_tab__law_word__law_ask | exact lo_lt | exact lo_le | exact lo_gt | exact lo_ge | exact lo_mul' | exact lo_add' | exact lf_sorted' | exact lf_sortedD' | exact lf_sortedSet' | exact lf_list' | exact lo_append' | exact lo_extend' | exact lo_pop' | exact lo_reverse' | exact tg_name' | exact tg_sub' | exact tg_nil' | refine tg_tup' ?_ | refine tg_cons' ?_ ?_ | refine ls_seq ?_ ?_ | refine ls_asg' ?_ ?_ | refine ls_if ?_ ?_ ?_ | refine ls_ret ?_ | refine ls_expr ?_ | refine ls_for' ?_ ?_ ?_ | refine ls_while ?_ ?_ | refine ls_par ?_ | refine ls_par3 ?_ | refine ls_try ?_ ?_ | refine ls_fldSet' ?_ ?_ | refine ls_dset' ?_ ?_ ?_ | refine ls_aug' ?_ | refine ls_augS' ?_ ?_ ?_ | refine lx_op ?_ ?_ ?_ | refine lx_un ?_ | refine lx_cons ?_ ?_ | refine lx_lst' ?_ | refine lx_tup' ?_ | refine lx_cb ?_ ?_ | refine lx_B ?_ | refine lx_and ?_ ?_ | refine lx_or ?_ ?_ | refine lx_not ?_ | refine lx_andV ?_ ?_ | refine lx_orV ?_ ?_ | refine lx_notV ?_ | refine lx_if ?_ ?_ ?_ | refine lx_chain ?_ ?_ ?_ ?_ ?_ | refine lx_call ?_ ?_ | refine lx_make' ?_ ?_ | refine lx_fld ?_ | refine lx_bm ?_ ?_ ?_ | refine lx_meth ?_ ?_ ?_ | refine lx_is ?_ ?_ ?_ | refine lx_sl' ?_ ?_ ?_ | refine lx_part ?_ | refine lx_rev' ?_ | exact lx_dnew' | refine lx_disp' ?_ ?_ | refine lx_listRg' ?_ | refine lx_dget ?_ ?_ | refine lx_din ?_ ?_ | refine lx_itList ?_ | refine lx_itTup ?_ | refine lx_itRng ?_ | refine lx_itEnum ?_ | refine lx_itZip ?_ ?_ | refine lx_lc' ?_ ?_ ?_ ?_ | refine lx_lcK' ?_ ?_ ?_ | refine lx_lcW' ?_ ?_ ?_ ?_ | refine lx_callW' ?_ ?_ | refine lx_callV ?_ ?_ | exact lx_lam' | exact lx_lam0' | exact lt_nil' | refine lt_cons' ?_ ?_ | refine lf_mk ?_ | refine lf_gc ?_ | refine lf_mkW' ?_ | refine lf_lam ?_ | exact rfl)
def c__law_limits_right : Fn := gcF (mkFn 1 10 (sSeq (sPar 1 2 (iCons (cLst (iCons (cTup (iCons (iC (.int 0)) (iCons (iC (.int 1)) iNil))) (iCons (cTup (iCons (iC (.int 0)) (iCons (iC (.int 1)) iNil))) (iCons (cTup (iCons (iC (.int 0)) (iCons (iC (.int 1)) iNil))) iNil)))) (iCons (cLst (iCons (cTup (iCons (iC (.int 0)) (iCons (iC (.int 1)) iNil))) (iCons (cTup (iCons (iC (.int 1)) (iCons (iC (.int 2)) iNil))) (iCons (cTup (iCons (iC (.int 0)) (iCons (iC (.int 2)) iNil))) iNil)))) iNil)))
  (sSeq (sAsg (cLst (iCons (cTup (iCons (iVar 1) (iCons (cLst (iCons (iC (.int 1)) (iCons (iC (.int 2)) iNil))) (iCons (cMake "Shared" c_Shared_init (iCons (cLst (iCons (iC (.int 0)) (iCons (iC (.int 1)) (iCons (iC (.int 1)) iNil)))) iNil)) (iCons (iC (.bl true)) iNil))))) (iCons (cTup (iCons (iVar 1) (iCons (cLst (iCons (iC (.int 1)) (iCons (iC (.int 1)) iNil))) (iCons (cMake "Shared" c_Shared_init (iCons (cLst (iCons (iC (.int 0)) (iCons (iC (.int 1)) (iCons (iC (.int 1)) iNil)))) iNil)) (iCons (iC (.bl false)) iNil))))) iNil))) (ctgName 3))
  (sSeq (sAsg (iOp cAdd (iVar 3) (cLst (iCons (cTup (iCons (iVar 1) (iCons (cLst (iCons (iVar 0) (iCons (iC (.int 0)) iNil))) (iCons (cMake "Shared" c_Shared_init (iCons (cLst (iCons (iC (.int 0)) (iCons (iC (.int 0)) (iCons (iC (.int 0)) iNil)))) iNil)) (iCons (iC (.bl true)) iNil))))) (iCons (cTup (iCons (iVar 1) (iCons (cLst (iCons (iC (.int 1)) (iCons (iC (.int 2)) iNil))) (iCons (cMake "Shared" c_Shared_init (iCons (cLst (iCons (iC (.int 0)) (iCons (iC (.int 1)) iNil))) iNil)) (iCons (iC (.bl false)) iNil))))) iNil)))) (ctgName 3))
  (sSeq (sAsg (iOp cAdd (iVar 3) (cLst (iCons (cTup (iCons (iVar 1) (iCons (cLst (iCons (iC (.int 1)) (iCons (iC (.int 2)) iNil))) (iCons (cMake "Shared" c_Shared_init (iCons (cLst (iCons (iC (.int 0)) (iCons (iC (.int 1)) (iCons (iC (.int 2)) iNil)))) iNil)) (iCons (iC (.bl false)) iNil))))) (iCons (cTup (iCons (iVar 1) (iCons (cLst (iCons (iC (.int 1)) (iCons (iC (.int 1)) iNil))) (iCons (cMake "Crowd" c_Crowd_init (iCons (cLst (iCons (iC (.int 0)) (iCons (iC (.int 1)) iNil))) iNil)) (iCons (iC (.bl true)) iNil))))) iNil)))) (ctgName 3))
  (sSeq (sAsg (iOp cAdd (iVar 3) (cLst (iCons (cTup (iCons (iVar 1) (iCons (cLst (iCons (iC (.int 1)) (iCons (iC (.int 2)) iNil))) (iCons (cMake "Crowd" c_Crowd_init (iCons (cLst (iCons (iC (.int 0)) (iCons (iC (.int 1)) iNil))) iNil)) (iCons (iC (.bl false)) iNil))))) (iCons (cTup (iCons (iVar 1) (iCons (cLst (iCons (iC (.int 0)) (iCons (iC (.int 0)) iNil))) (iCons (cMake "Crowd" c_Crowd_init (iCons (cLst (iCons (iC (.int 0)) iNil)) iNil)) (iCons (iC (.bl false)) iNil))))) iNil)))) (ctgName 3))
  (sSeq (sAsg (iOp cAdd (iVar 3) (cLst (iCons (cTup (iCons (iVar 1) (iCons (cLst (iCons (iC (.int 1)) (iCons (iC (.int 1)) iNil))) (iCons (cMake "Crowd" c_Crowd_init (iCons (cLst (iCons (iC (.int 1)) (iCons (iC (.int 0)) iNil))) iNil)) (iCons (iC (.bl false)) iNil))))) (iCons (cTup (iCons (iVar 1) (iCons (cLst (iCons (iC (.int 1)) (iCons (iC (.int 1)) iNil))) (iCons (cMake "Crowd" c_Crowd_init (iCons (cLst (iCons (iC (.int 0)) (iCons (iC (.int 0)) (iCons (iC (.int 1)) iNil)))) iNil)) (iCons (iC (.bl false)) iNil))))) iNil)))) (ctgName 3))
  (sSeq (sAsg (iOp cAdd (iVar 3) (cLst (iCons (cTup (iCons (iVar 1) (iCons (cLst (iCons (iC (.int 1)) (iCons (iC (.int 1)) iNil))) (iCons (cMake "Crowd" c_Crowd_init (iCons (cLst (iCons (iC (.int 0)) (iCons (iC (.int 2)) iNil))) iNil)) (iCons (iC (.bl false)) iNil))))) (iCons (cTup (iCons (iVar 1) (iCons (cLst (iCons (iC (.int 1)) (iCons (iC (.int 1)) iNil))) (iCons (cMake "Crowd" c_Crowd_init (iCons (cLst iNil) iNil)) (iCons (iC (.bl false)) iNil))))) iNil)))) (ctgName 3))
  (sSeq (sAsg (iOp cAdd (iVar 3) (cLst (iCons (cTup (iCons (cLst iNil) (iCons (cLst (iCons (iC (.int 0)) (iCons (iC (.int 0)) iNil))) (iCons (cMake "Shared" c_Shared_init (iCons (cLst iNil) iNil)) (iCons (iC (.bl true)) iNil))))) iNil))) (ctgName 3))
  (sSeq (sIf (iB (iCB fAny (iCons (cLc (itList (iVar 3)) (tgTupN 4 [(ctgName 4), (ctgName 5), (ctgName 8), (ctgName 9)]) iYes (iOp fNe (iIs "Shared" (iVar 8) (iMeth "Shared" "shows" c_Shared_shows (iVar 8) (iCons (iC (.int 2)) (iCons (iVar 4) (iCons (iVar 5) iNil)))) (iMeth "Crowd" "shows" c_Crowd_shows (iVar 8) (iCons (iC (.int 2)) (iCons (iVar 4) (iCons (iVar 5) iNil))))) (iVar 9)) [4, 5, 8, 9]) iNil))) (sRet (iC (.bl false))) sNext)
  (sSeq (sIf (iNot (iB (iIs "Shared" (cMake "Crowd" c_Crowd_init (iCons (cLst (iCons (iC (.int 0)) (iCons (iC (.int 1)) (iCons (iC (.int 2)) iNil)))) iNil)) (iMeth "Shared" "shows" c_Shared_shows (cMake "Crowd" c_Crowd_init (iCons (cLst (iCons (iC (.int 0)) (iCons (iC (.int 1)) (iCons (iC (.int 2)) iNil)))) iNil)) (iCons (iC (.int 3)) (iCons (iOp cAdd (iOp cMulF (cSl (iVar 2) iNoPart (iPart (iC (.int 1)))) (iC (.int 2))) (iVar 2)) (iCons (cLst (iCons (iC (.int 0)) (iCons (iC (.int 0)) (iCons (iC (.int 1)) iNil)))) iNil)))) (iMeth "Crowd" "shows" c_Crowd_shows (cMake "Crowd" c_Crowd_init (iCons (cLst (iCons (iC (.int 0)) (iCons (iC (.int 1)) (iCons (iC (.int 2)) iNil)))) iNil)) (iCons (iC (.int 3)) (iCons (iOp cAdd (iOp cMulF (cSl (iVar 2) iNoPart (iPart (iC (.int 1)))) (iC (.int 2))) (iVar 2)) (iCons (cLst (iCons (iC (.int 0)) (iCons (iC (.int 0)) (iCons (iC (.int 1)) iNil)))) iNil))))))) (sRet (iC (.bl false))) sNext)
  (sSeq (sIf (iB (iIs "Shared" (cMake "Crowd" c_Crowd_init (iCons (cLst (iCons (iC (.int 0)) (iCons (iC (.int 1)) (iCons (iC (.int 2)) iNil)))) iNil)) (iMeth "Shared" "shows" c_Shared_shows (cMake "Crowd" c_Crowd_init (iCons (cLst (iCons (iC (.int 0)) (iCons (iC (.int 1)) (iCons (iC (.int 2)) iNil)))) iNil)) (iCons (iC (.int 3)) (iCons (iVar 2) (iCons (cLst (iCons (iC (.int 1)) (iCons (iC (.int 1)) (iCons (iC (.int 1)) iNil)))) iNil)))) (iMeth "Crowd" "shows" c_Crowd_shows (cMake "Crowd" c_Crowd_init (iCons (cLst (iCons (iC (.int 0)) (iCons (iC (.int 1)) (iCons (iC (.int 2)) iNil)))) iNil)) (iCons (iC (.int 3)) (iCons (iVar 2) (iCons (cLst (iCons (iC (.int 1)) (iCons (iC (.int 1)) (iCons (iC (.int 1)) iNil)))) iNil)))))) (sRet (iC (.bl false))) sNext)
  (sSeq (sIf (iNot (iB (iIs "Shared" (cMake "Crowd" c_Crowd_init (iCons (cLst (iCons (iC (.int 0)) (iCons (iC (.int 1)) (iCons (iC (.int 2)) iNil)))) iNil)) (iMeth "Shared" "shows" c_Shared_shows (cMake "Crowd" c_Crowd_init (iCons (cLst (iCons (iC (.int 0)) (iCons (iC (.int 1)) (iCons (iC (.int 2)) iNil)))) iNil)) (iCons (iC (.int 3)) (iCons (iOp cAdd (iVar 1) (cLst (iCons (cTup (iCons (iC (.int 0)) (iCons (iC (.int 2)) iNil))) iNil))) (iCons (cLst (iCons (iC (.int 1)) (iCons (iC (.int 1)) (iCons (iC (.int 1)) iNil)))) iNil)))) (iMeth "Crowd" "shows" c_Crowd_shows (cMake "Crowd" c_Crowd_init (iCons (cLst (iCons (iC (.int 0)) (iCons (iC (.int 1)) (iCons (iC (.int 2)) iNil)))) iNil)) (iCons (iC (.int 3)) (iCons (iOp cAdd (iVar 1) (cLst (iCons (cTup (iCons (iC (.int 0)) (iCons (iC (.int 2)) iNil))) iNil))) (iCons (cLst (iCons (iC (.int 1)) (iCons (iC (.int 1)) (iCons (iC (.int 1)) iNil)))) iNil))))))) (sRet (iC (.bl false))) sNext)
  (sSeq (sAsg (cLst (iCons (cTup (iCons (iVar 1) (iCons (cLst (iCons (iC (.int 1)) (iCons (iC (.int 2)) iNil))) (iCons (iC (.bl true)) iNil)))) (iCons (cTup (iCons (iVar 1) (iCons (cLst (iCons (iC (.int 1)) (iCons (iC (.int 1)) iNil))) (iCons (iC (.bl false)) iNil)))) (iCons (cTup (iCons (iVar 1) (iCons (cLst (iCons (iVar 0) (iCons (iC (.int 0)) iNil))) (iCons (iC (.bl true)) iNil)))) iNil)))) (ctgName 3))
  (sSeq (sAsg (iOp cAdd (iVar 3) (cLst (iCons (cTup (iCons (iVar 1) (iCons (cLst (iCons (iC (.int 0)) (iCons (iC (.int 0)) iNil))) (iCons (iC (.bl false)) iNil)))) (iCons (cTup (iCons (cLst iNil) (iCons (cLst (iCons (iC (.int 0)) (iCons (iC (.int 0)) iNil))) (iCons (iC (.bl true)) iNil)))) iNil)))) (ctgName 3))
  (sSeq (sFor (itList (iVar 3)) (tgTupN 3 [(ctgName 4), (ctgName 5), (ctgName 6)]) (sSeq (sAsg (iCall c_shared (iCons (iC (.int 2)) (iCons (iVar 4) (iCons (iVar 5) iNil)))) (ctgName 7))
  (sIf (iOr (iB (iOp fNe (iCB fIsiC (iCons (iVar 7) (iCons (iC (.gl "Shared")) iNil))) (iVar 6))) (iNot (iB (iIs "Shared" (iVar 7) (iMeth "Shared" "shows" c_Shared_shows (iVar 7) (iCons (iC (.int 2)) (iCons (iVar 4) (iCons (iVar 5) iNil)))) (iMeth "Crowd" "shows" c_Crowd_shows (iVar 7) (iCons (iC (.int 2)) (iCons (iVar 4) (iCons (iVar 5) iNil)))))))) (sRet (iC (.bl false))) sNext)))
  (sSeq (sIf (iNot (iB (iCB fIsiC (iCons (iCall c_shared (iCons (iC (.int 3)) (iCons (iVar 2) (iCons (cLst (iCons (iC (.int 1)) (iCons (iC (.int 1)) (iCons (iC (.int 1)) iNil)))) iNil)))) (iCons (iC (.gl "Shared")) iNil))))) (sRet (iC (.bl false))) sNext)
  (sSeq (sIf (iOr (iNot (iB (iCB fIsiC (iCons (iCall c_shared (iCons (iC (.int 3)) (iCons (iVar 2) (iCons (cLst (iCons (iC (.int 1)) (iCons (iC (.int 1)) (iCons (iC (.int 0)) iNil)))) iNil)))) (iCons (iC (.gl "Crowd")) iNil))))) (iB (iOp fNe (iFld (iCall c_shared (iCons (iC (.int 60)) (iCons (cLst iNil) (iCons (iOp cMulF (cLst (iCons (iC (.int 0)) iNil)) (iC (.int 60))) iNil)))) "sharing") (cLst iNil)))) (sRet (iC (.bl false))) sNext)
  (sSeq (sIf (iOr (iB (iOp fNe (iCall c_loads (iCons (iC (.int 2)) (iCons (iVar 1) (iCons (cLst (iCons (iC (.int 0)) (iCons (iC (.int 1)) (iCons (iC (.int 1)) iNil)))) iNil)))) (cLst (iCons (iC (.int 1)) (iCons (iC (.int 2)) iNil))))) (iB (iOp fNe (iCall c_loads (iCons (iC (.int 3)) (iCons (cLst iNil) (iCons (cLst iNil) iNil)))) (cLst (iCons (iC (.int 0)) (iCons (iC (.int 0)) (iCons (iC (.int 0)) iNil))))))) (sRet (iC (.bl false))) sNext)
  (sRet (iOp fEq (iCall c_loads (iCons (iC (.int 3)) (iCons (iVar 2) (iCons (cLst (iCons (iC (.int 0)) (iCons (iC (.int 1)) (iCons (iC (.int 2)) iNil)))) iNil)))) (cLst (iCons (iC (.int 1)) (iCons (iC (.int 1)) (iCons (iC (.int 1)) iNil)))))))))))))))))))))))))
theorem le_i__law_limits_right : Lf c__law_limits_right i__law_limits_right := by
  unfold c__law_limits_right i__law_limits_right; repeat' (with_reducible first | exact Lx.refl _ | exact Ls.refl _ | exact Lf.refl _ | exact Lo.refl _ | exact le_i_Crowd_init | exact le_i_Crowd_shows | exact le_i_Shared_init | exact le_i_Shared_shows | exact le_i_loads | exact le_i_shared | exact lo_lt | exact lo_le | exact lo_gt | exact lo_ge | exact lo_mul' | exact lo_add' | exact lf_sorted' | exact lf_sortedD' | exact lf_sortedSet' | exact lf_list' | exact lo_append' | exact lo_extend' | exact lo_pop' | exact lo_reverse' | exact tg_name' | exact tg_sub' | exact tg_nil' | refine tg_tup' ?_ | refine tg_cons' ?_ ?_ | refine ls_seq ?_ ?_ | refine ls_asg' ?_ ?_ | refine ls_if ?_ ?_ ?_ | refine ls_ret ?_ | refine ls_expr ?_ | refine ls_for' ?_ ?_ ?_ | refine ls_while ?_ ?_ | refine ls_par ?_ | refine ls_par3 ?_ | refine ls_try ?_ ?_ | refine ls_fldSet' ?_ ?_ | refine ls_dset' ?_ ?_ ?_ | refine ls_aug' ?_ | refine ls_augS' ?_ ?_ ?_ | refine lx_op ?_ ?_ ?_ | refine lx_un ?_ | refine lx_cons ?_ ?_ | refine lx_lst' ?_ | refine lx_tup' ?_ | refine lx_cb ?_ ?_ | refine lx_B ?_ | refine lx_and ?_ ?_ | refine lx_or ?_ ?_ | refine lx_not ?_ | refine lx_andV ?_ ?_ | refine lx_orV ?_ ?_ | refine lx_notV ?_ | refine lx_if ?_ ?_ ?_ | refine lx_chain ?_ ?_ ?_ ?_ ?_ | refine lx_call ?_ ?_ | refine lx_make' ?_ ?_ | refine lx_fld ?_ | refine lx_bm ?_ ?_ ?_ | refine lx_meth ?_ ?_ ?_ | refine lx_is ?_ ?_ ?_ | refine lx_sl' ?_ ?_ ?_ | refine lx_part ?_ | refine lx_rev' ?_ | exact lx_dnew' | refine lx_disp' ?_ ?_ | refine lx_listRg' ?_ | refine lx_dget ?_ ?_ | refine lx_din ?_ ?_ | refine lx_itList ?_ | refine lx_itTup ?_ | refine lx_itRng ?_ | refine lx_itEnum ?_ | refine lx_itZip ?_ ?_ | refine lx_lc' ?_ ?_ ?_ ?_ | refine lx_lcK' ?_ ?_ ?_ | refine lx_lcW' ?_ ?_ ?_ ?_ | refine lx_callW' ?_ ?_ | refine lx_callV ?_ ?_ | exact lx_lam' | exact lx_lam0' | exact lt_nil' | refine lt_cons' ?_ ?_ | refine lf_mk ?_ | refine lf_gc ?_ | refine lf_mkW' ?_ | refine lf_lam ?_ | exact rfl)
def c__law_even_right : Fn := gcF (mkFn 0 10 (sSeq (sPar3 0 1 2 (iCons (cLst (iCons (cTup (iCons (iC (.int 0)) (iCons (iC (.int 1)) iNil))) (iCons (cTup (iCons (iC (.int 1)) (iCons (iC (.int 2)) iNil))) (iCons (cTup (iCons (iC (.int 1)) (iCons (iC (.int 3)) iNil))) iNil)))) (iCons (cLst (iCons (cTup (iCons (iC (.int 0)) (iCons (iC (.int 1)) iNil))) (iCons (cTup (iCons (iC (.int 1)) (iCons (iC (.int 2)) iNil))) (iCons (cTup (iCons (iC (.int 0)) (iCons (iC (.int 2)) iNil))) iNil)))) (iCons (iOp cMulF (cLst (iCons (cTup (iCons (iC (.int 0)) (iCons (iC (.int 1)) iNil))) iNil)) (iC (.int 3))) iNil))))
  (sSeq (sAsg (cLst (iCons (cTup (iCons (iC (.int 4)) (iCons (iVar 0) (iCons (cMake "Even" c_Even_init (iCons (cLst (iCons (iC (.int 0)) (iCons (iC (.int 2)) (iCons (iC (.int 3)) iNil)))) (iCons (cLst (iCons (iC (.int 0)) (iCons (iC (.int 1)) iNil))) iNil))) (iCons (iC (.bl true)) iNil))))) (iCons (cTup (iCons (iC (.int 4)) (iCons (iVar 0) (iCons (cMake "Even" c_Even_init (iCons (cLst (iCons (iC (.int 0)) (iCons (iC (.int 2)) (iCons (iC (.int 3)) iNil)))) (iCons (cLst iNil) iNil))) (iCons (iC (.bl false)) iNil))))) iNil))) (ctgName 3))
  (sSeq (sAsg (iOp cAdd (iVar 3) (cLst (iCons (cTup (iCons (iC (.int 4)) (iCons (iVar 0) (iCons (cMake "Even" c_Even_init (iCons (cLst (iCons (iC (.int 1)) (iCons (iC (.int 2)) (iCons (iC (.int 3)) iNil)))) (iCons (cLst (iCons (iC (.int 0)) (iCons (iC (.int 1)) (iCons (iC (.int 2)) (iCons (iC (.int 3)) iNil))))) iNil))) (iCons (iC (.bl true)) iNil))))) iNil))) (ctgName 3))
  (sSeq (sAsg (iOp cAdd (iVar 3) (cLst (iCons (cTup (iCons (iC (.int 4)) (iCons (iVar 0) (iCons (cMake "Even" c_Even_init (iCons (cLst (iCons (iC (.int 1)) (iCons (iC (.int 1)) (iCons (iC (.int 3)) iNil)))) (iCons (cLst (iCons (iC (.int 0)) (iCons (iC (.int 1)) (iCons (iC (.int 2)) (iCons (iC (.int 3)) iNil))))) iNil))) (iCons (iC (.bl false)) iNil))))) iNil))) (ctgName 3))
  (sSeq (sAsg (iOp cAdd (iVar 3) (cLst (iCons (cTup (iCons (iC (.int 3)) (iCons (iVar 1) (iCons (cMake "Even" c_Even_init (iCons (cLst (iCons (iC (.int 0)) (iCons (iC (.int 1)) (iCons (iC (.int 2)) iNil)))) (iCons (cLst (iCons (iC (.int 0)) (iCons (iC (.int 1)) (iCons (iC (.int 2)) iNil)))) iNil))) (iCons (iC (.bl true)) iNil))))) iNil))) (ctgName 3))
  (sSeq (sAsg (iOp cAdd (iVar 3) (cLst (iCons (cTup (iCons (iC (.int 3)) (iCons (iVar 1) (iCons (cMake "Even" c_Even_init (iCons (cLst (iCons (iC (.int 0)) (iCons (iC (.int 1)) (iCons (iC (.int 2)) iNil)))) (iCons (cLst (iCons (iC (.int 0)) (iCons (iC (.int 1)) iNil))) iNil))) (iCons (iC (.bl true)) iNil))))) (iCons (cTup (iCons (iC (.int 2)) (iCons (iVar 2) (iCons (cMake "Even" c_Even_init (iCons (cLst (iCons (iC (.int 0)) (iCons (iC (.int 1)) (iCons (iC (.int 1)) iNil)))) (iCons (cLst (iCons (iC (.int 0)) (iCons (iC (.int 1)) iNil))) iNil))) (iCons (iC (.bl true)) iNil))))) iNil)))) (ctgName 3))
  (sSeq (sAsg (iOp cAdd (iVar 3) (cLst (iCons (cTup (iCons (iC (.int 2)) (iCons (iVar 2) (iCons (cMake "Even" c_Even_init (iCons (cLst (iCons (iC (.int 1)) (iCons (iC (.int 1)) (iCons (iC (.int 1)) iNil)))) (iCons (cLst (iCons (iC (.int 0)) (iCons (iC (.int 1)) iNil))) iNil))) (iCons (iC (.bl false)) iNil))))) iNil))) (ctgName 3))
  (sSeq (sAsg (iOp cAdd (iVar 3) (cLst (iCons (cTup (iCons (iC (.int 2)) (iCons (iVar 2) (iCons (cMake "Even" c_Even_init (iCons (cLst (iCons (iC (.int 0)) (iCons (iC (.int 1)) (iCons (iC (.int 1)) iNil)))) (iCons (cLst (iCons (iC (.int 1)) (iCons (iC (.int 0)) iNil))) iNil))) (iCons (iC (.bl false)) iNil))))) (iCons (cTup (iCons (iC (.int 3)) (iCons (cLst iNil) (iCons (cMake "Even" c_Even_init (iCons (cLst iNil) (iCons (cLst iNil) iNil))) (iCons (iC (.bl true)) iNil))))) iNil)))) (ctgName 3))
  (sSeq (sAsg (iOp cAdd (iVar 3) (cLst (iCons (cTup (iCons (iC (.int 3)) (iCons (cLst iNil) (iCons (cMake "Even" c_Even_init (iCons (cLst iNil) (iCons (cLst (iCons (iC (.int 0)) iNil)) iNil))) (iCons (iC (.bl false)) iNil))))) (iCons (cTup (iCons (iC (.int 2)) (iCons (iVar 2) (iCons (cMake "Even" c_Even_init (iCons (cLst (iCons (iC (.int 0)) (iCons (iC (.int 1)) iNil))) (iCons (cLst (iCons (iC (.int 0)) (iCons (iC (.int 1)) iNil))) iNil))) (iCons (iC (.bl false)) iNil))))) iNil)))) (ctgName 3))
  (sSeq (sAsg (iOp cAdd (iVar 3) (cLst (iCons (cTup (iCons (iC (.int 3)) (iCons (iVar 1) (iCons (cMake "Even" c_Even_init (iCons (cLst (iCons (iC (.int 0)) (iCons (iC (.int 1)) (iCons (iC (.int 2)) iNil)))) (iCons (cLst (iCons (iC (.int 0)) iNil)) iNil))) (iCons (iC (.bl false)) iNil))))) iNil))) (ctgName 3))
  (sSeq (sIf (iB (iCB fAny (iCons (cLc (itList (iVar 3)) (tgTupN 4 [(ctgName 4), (ctgName 5), (ctgName 8), (ctgName 9)]) iYes (iOp fNe (iMeth "Even" "shows" c_Even_shows (iVar 8) (iCons (iVar 4) (iCons (iVar 5) iNil))) (iVar 9)) [4, 5, 8, 9]) iNil))) (sRet (iC (.bl false))) sNext)
  (sSeq (sAsg (cLst (iCons (cTup (iCons (iC (.int 4)) (iCons (iVar 0) (iCons (iC (.int 1)) iNil)))) (iCons (cTup (iCons (iC (.int 3)) (iCons (iVar 1) (iCons (iC (.int 1)) iNil)))) (iCons (cTup (iCons (iC (.int 2)) (iCons (iVar 2) (iCons (iC (.int 2)) iNil)))) (iCons (cTup (iCons (iC (.int 4)) (iCons (iOp cAdd (iVar 0) (iVar 1)) (iCons (iC (.int 2)) iNil)))) (iCons (cTup (iCons (iC (.int 2)) (iCons (iOp cMulF (cLst (iCons (cTup (iCons (iC (.int 0)) (iCons (iC (.int 1)) iNil))) iNil)) (iC (.int 7))) (iCons (iC (.int 4)) iNil)))) (iCons (cTup (iCons (iC (.int 60)) (iCons (cLst iNil) (iCons (iC (.int 0)) iNil)))) iNil))))))) (ctgName 3))
  (sSeq (sFor (itList (iVar 3)) (tgTupN 3 [(ctgName 4), (ctgName 5), (ctgName 6)]) (sSeq (sAsg (iCall c_evenest (iCons (iVar 4) (iCons (iVar 5) iNil))) (ctgName 7))
  (sIf (iOr (iNot (iB (iMeth "Even" "shows" c_Even_shows (iVar 7) (iCons (iVar 4) (iCons (iVar 5) iNil))))) (iB (iOp fNe (iCB fMax (iCons (iCall c_loads (iCons (iVar 4) (iCons (iVar 5) (iCons (iFld (iVar 7) "sharing") iNil)))) iNil)) (iVar 6)))) (sRet (iC (.bl false))) sNext)))
  (sRet (iOp fEq (cTup (iCons (iFld (iCall c_evenest (iCons (iC (.int 3)) (iCons (cLst iNil) iNil))) "sharing") (iCons (iFld (iCall c_evenest (iCons (iC (.int 3)) (iCons (cLst iNil) iNil))) "some") iNil))) (cTup (iCons (cLst iNil) (iCons (cLst iNil) iNil)))))))))))))))))))
theorem le_i__law_even_right : Lf c__law_even_right i__law_even_right := by
  unfold c__law_even_right i__law_even_right; repeat' (with_reducible first | exact Lx.refl _ | exact Ls.refl _ | exact Lf.refl _ | exact Lo.refl _ | exact le_i_Even_init | exact le_i_Even_shows | exact le_i_evenest | exact le_i_loads | exact lo_lt | exact lo_le | exact lo_gt | exact lo_ge | exact lo_mul' | exact lo_add' | exact lf_sorted' | exact lf_sortedD' | exact lf_sortedSet' | exact lf_list' | exact lo_append' | exact lo_extend' | exact lo_pop' | exact lo_reverse' | exact tg_name' | exact tg_sub' | exact tg_nil' | refine tg_tup' ?_ | refine tg_cons' ?_ ?_ | refine ls_seq ?_ ?_ | refine ls_asg' ?_ ?_ | refine ls_if ?_ ?_ ?_ | refine ls_ret ?_ | refine ls_expr ?_ | refine ls_for' ?_ ?_ ?_ | refine ls_while ?_ ?_ | refine ls_par ?_ | refine ls_par3 ?_ | refine ls_try ?_ ?_ | refine ls_fldSet' ?_ ?_ | refine ls_dset' ?_ ?_ ?_ | refine ls_aug' ?_ | refine ls_augS' ?_ ?_ ?_ | refine lx_op ?_ ?_ ?_ | refine lx_un ?_ | refine lx_cons ?_ ?_ | refine lx_lst' ?_ | refine lx_tup' ?_ | refine lx_cb ?_ ?_ | refine lx_B ?_ | refine lx_and ?_ ?_ | refine lx_or ?_ ?_ | refine lx_not ?_ | refine lx_andV ?_ ?_ | refine lx_orV ?_ ?_ | refine lx_notV ?_ | refine lx_if ?_ ?_ ?_ | refine lx_chain ?_ ?_ ?_ ?_ ?_ | refine lx_call ?_ ?_ | refine lx_make' ?_ ?_ | refine lx_fld ?_ | refine lx_bm ?_ ?_ ?_ | refine lx_meth ?_ ?_ ?_ | refine lx_is ?_ ?_ ?_ | refine lx_sl' ?_ ?_ ?_ | refine lx_part ?_ | refine lx_rev' ?_ | exact lx_dnew' | refine lx_disp' ?_ ?_ | refine lx_listRg' ?_ | refine lx_dget ?_ ?_ | refine lx_din ?_ ?_ | refine lx_itList ?_ | refine lx_itTup ?_ | refine lx_itRng ?_ | refine lx_itEnum ?_ | refine lx_itZip ?_ ?_ | refine lx_lc' ?_ ?_ ?_ ?_ | refine lx_lcK' ?_ ?_ ?_ | refine lx_lcW' ?_ ?_ ?_ ?_ | refine lx_callW' ?_ ?_ | refine lx_callV ?_ ?_ | exact lx_lam' | exact lx_lam0' | exact lt_nil' | refine lt_cons' ?_ ?_ | refine lf_mk ?_ | refine lf_gc ?_ | refine lf_mkW' ?_ | refine lf_lam ?_ | exact rfl)
def c__law_passed_right : Fn := gcF (mkFn 0 10 (sSeq (sAsg (cLst (iCons (cTup (iCons (iC (.int 0)) (iCons (iC (.int 1)) iNil))) (iCons (cTup (iCons (iC (.int 1)) (iCons (iC (.int 2)) iNil))) (iCons (cTup (iCons (iC (.int 2)) (iCons (iC (.int 3)) iNil))) (iCons (cTup (iCons (iC (.int 0)) (iCons (iC (.int 2)) iNil))) iNil))))) (ctgName 0))
  (sSeq (sAsg (cLst (iCons (iC (.int 0)) (iCons (iC (.int 1)) (iCons (iC (.int 2)) (iCons (iC (.int 2)) iNil))))) (ctgName 1))
  (sSeq (sAsg (cLst (iCons (cTup (iCons (cMake "Chain" c_Chain_init (iCons (cLst (iCons (iC (.int 0)) (iCons (iC (.int 1)) (iCons (iC (.int 2)) iNil)))) iNil)) (iCons (iC (.int 0)) (iCons (iC (.int 3)) (iCons (iC (.bl true)) iNil))))) (iCons (cTup (iCons (cMake "Chain" c_Chain_init (iCons (cLst (iCons (iC (.int 0)) (iCons (iC (.int 1)) iNil))) iNil)) (iCons (iC (.int 0)) (iCons (iC (.int 2)) (iCons (iC (.bl true)) iNil))))) iNil))) (ctgName 2))
  (sSeq (sAsg (iOp cAdd (iVar 2) (cLst (iCons (cTup (iCons (cMake "Chain" c_Chain_init (iCons (cLst (iCons (iC (.int 0)) iNil)) iNil)) (iCons (iC (.int 0)) (iCons (iC (.int 1)) (iCons (iC (.bl true)) iNil))))) (iCons (cTup (iCons (cMake "Chain" c_Chain_init (iCons (cLst iNil) iNil)) (iCons (iC (.int 0)) (iCons (iC (.int 1)) (iCons (iC (.bl false)) iNil))))) (iCons (cTup (iCons (cMake "Chain" c_Chain_init (iCons (cLst (iCons (iC (.int 1)) (iCons (iC (.int 2)) iNil))) iNil)) (iCons (iC (.int 0)) (iCons (iC (.int 3)) (iCons (iC (.bl false)) iNil))))) iNil))))) (ctgName 2))
  (sSeq (sAsg (iOp cAdd (iVar 2) (cLst (iCons (cTup (iCons (cMake "Chain" c_Chain_init (iCons (cLst (iCons (iC (.int 0)) (iCons (iC (.int 1)) (iCons (iC (.int 3)) (iCons (iC (.int 0)) (iCons (iC (.int 1)) (iCons (iC (.int 2)) iNil))))))) iNil)) (iCons (iC (.int 0)) (iCons (iC (.int 3)) (iCons (iC (.bl false)) iNil))))) iNil))) (ctgName 2))
  (sSeq (sAsg (iOp cAdd (iVar 2) (cLst (iCons (cTup (iCons (cMake "Chain" c_Chain_init (iCons (cLst (iCons (iC (.int 0)) (iCons (iC (.int 1)) (iCons (iC (.int 2)) iNil)))) iNil)) (iCons (iC (.int 0)) (iCons (iC (.int 2)) (iCons (iC (.bl false)) iNil))))) (iCons (cTup (iCons (cMake "Chain" c_Chain_init (iCons (cLst (iCons (iC (.int 0)) (iCons (iC (.int 4)) iNil))) iNil)) (iCons (iC (.int 0)) (iCons (iC (.int 2)) (iCons (iC (.bl false)) iNil))))) iNil)))) (ctgName 2))
  (sSeq (sAsg (iOp cAdd (iVar 2) (cLst (iCons (cTup (iCons (cMake "Chain" c_Chain_init (iCons (cLst (iCons (iUn fNegB (iC (.int 4))) iNil)) iNil)) (iCons (iC (.int 0)) (iCons (iC (.int 1)) (iCons (iC (.bl false)) iNil))))) (iCons (cTup (iCons (cMake "Chain" c_Chain_init (iCons (cLst (iCons (iC (.int 3)) (iCons (iC (.int 0)) iNil))) iNil)) (iCons (iC (.int 2)) (iCons (iC (.int 1)) (iCons (iC (.bl true)) iNil))))) (iCons (cTup (iCons (cMake "Side" c_Side_init (iCons (cLst (iCons (iC (.int 3)) iNil)) iNil)) (iCons (iC (.int 3)) (iCons (iC (.int 0)) (iCons (iC (.bl true)) iNil))))) iNil))))) (ctgName 2))
  (sSeq (sAsg (iOp cAdd (iVar 2) (cLst (iCons (cTup (iCons (cMake "Side" c_Side_init (iCons (cLst (iCons (iC (.int 2)) (iCons (iC (.int 3)) iNil))) iNil)) (iCons (iC (.int 3)) (iCons (iC (.int 0)) (iCons (iC (.bl false)) iNil))))) iNil))) (ctgName 2))
  (sSeq (sAsg (iOp cAdd (iVar 2) (cLst (iCons (cTup (iCons (cMake "Side" c_Side_init (iCons (cLst (iCons (iC (.int 1)) (iCons (iC (.int 3)) iNil))) iNil)) (iCons (iC (.int 3)) (iCons (iC (.int 0)) (iCons (iC (.bl false)) iNil))))) (iCons (cTup (iCons (cMake "Side" c_Side_init (iCons (cLst (iCons (iC (.int 3)) (iCons (iC (.int 1)) iNil))) iNil)) (iCons (iC (.int 3)) (iCons (iC (.int 0)) (iCons (iC (.bl false)) iNil))))) iNil)))) (ctgName 2))
  (sSeq (sAsg (iOp cAdd (iVar 2) (cLst (iCons (cTup (iCons (cMake "Side" c_Side_init (iCons (cLst (iCons (iC (.int 0)) (iCons (iC (.int 3)) iNil))) iNil)) (iCons (iC (.int 3)) (iCons (iC (.int 0)) (iCons (iC (.bl false)) iNil))))) (iCons (cTup (iCons (cMake "Side" c_Side_init (iCons (cLst (iCons (iC (.int 0)) (iCons (iC (.int 1)) (iCons (iC (.int 2)) (iCons (iC (.int 3)) iNil))))) iNil)) (iCons (iC (.int 3)) (iCons (iC (.int 0)) (iCons (iC (.bl false)) iNil))))) (iCons (cTup (iCons (cMake "Side" c_Side_init (iCons (cLst iNil) iNil)) (iCons (iC (.int 3)) (iCons (iC (.int 0)) (iCons (iC (.bl false)) iNil))))) iNil))))) (ctgName 2))
  (sSeq (sAsg (iOp cAdd (iVar 2) (cLst (iCons (cTup (iCons (cMake "Side" c_Side_init (iCons (cLst (iCons (iC (.int 0)) (iCons (iC (.int 1)) (iCons (iC (.int 2)) iNil)))) iNil)) (iCons (iC (.int 0)) (iCons (iC (.int 3)) (iCons (iC (.bl false)) iNil))))) (iCons (cTup (iCons (cMake "Side" c_Side_init (iCons (cLst (iCons (iC (.int 3)) (iCons (iC (.int 4)) iNil))) iNil)) (iCons (iC (.int 3)) (iCons (iC (.int 0)) (iCons (iC (.bl false)) iNil))))) iNil)))) (ctgName 2))
  (sSeq (sIf (iB (iCB fAny (iCons (cLc (itList (iVar 2)) (tgTupN 4 [(ctgName 6), (ctgName 7), (ctgName 8), (ctgName 9)]) iYes (iOp fNe (iIs "Chain" (iVar 6) (iMeth "Chain" "shows" c_Chain_shows (iVar 6) (iCons (iC (.int 4)) (iCons (iVar 0) (iCons (iVar 1) (iCons (iVar 7) (iCons (iVar 8) iNil)))))) (iMeth "Side" "shows" c_Side_shows (iVar 6) (iCons (iC (.int 4)) (iCons (iVar 0) (iCons (iVar 1) (iCons (iVar 7) (iCons (iVar 8) iNil))))))) (iVar 9)) [6, 7, 8, 9]) iNil))) (sRet (iC (.bl false))) sNext)
  (sSeq (sIf (iNot (iB (iIs "Chain" (cMake "Side" c_Side_init (iCons (cLst (iCons (iC (.int 1)) iNil)) iNil)) (iMeth "Chain" "shows" c_Chain_shows (cMake "Side" c_Side_init (iCons (cLst (iCons (iC (.int 1)) iNil)) iNil)) (iCons (iC (.int 2)) (iCons (cLst (iCons (cTup (iCons (iC (.int 0)) (iCons (iC (.int 1)) iNil))) iNil)) (iCons (cLst (iCons (iC (.int 0)) iNil)) (iCons (iC (.int 1)) (iCons (iC (.int 0)) iNil)))))) (iMeth "Side" "shows" c_Side_shows (cMake "Side" c_Side_init (iCons (cLst (iCons (iC (.int 1)) iNil)) iNil)) (iCons (iC (.int 2)) (iCons (cLst (iCons (cTup (iCons (iC (.int 0)) (iCons (iC (.int 1)) iNil))) iNil)) (iCons (cLst (iCons (iC (.int 0)) iNil)) (iCons (iC (.int 1)) (iCons (iC (.int 0)) iNil))))))))) (sRet (iC (.bl false))) sNext)
  (sSeq (sAsg (iCall c_passed (iCons (iC (.int 4)) (iCons (iVar 0) (iCons (iVar 1) (iCons (iC (.int 0)) (iCons (iC (.int 3)) iNil)))))) (ctgName 3))
  (sSeq (sIf (iOr (iNot (iB (iCB fIsiC (iCons (iVar 3) (iCons (iC (.gl "Chain")) iNil))))) (iB (iOp fNe (iFld (iVar 3) "tasks") (cLst (iCons (iC (.int 0)) (iCons (iC (.int 1)) (iCons (iC (.int 2)) iNil))))))) (sRet (iC (.bl false))) sNext)
  (sSeq (sIf (iNot (iB (iCB fIsiC (iCons (iCall c_passed (iCons (iC (.int 4)) (iCons (iVar 0) (iCons (iVar 1) (iCons (iC (.int 3)) (iCons (iC (.int 0)) iNil)))))) (iCons (iC (.gl "Side")) iNil))))) (sRet (iC (.bl false))) sNext)
  (sSeq (sIf (iB (iOp fNe (iFld (iCall c_passed (iCons (iC (.int 4)) (iCons (iVar 0) (iCons (iVar 1) (iCons (iC (.int 1)) (iCons (iC (.int 0)) iNil)))))) "tasks") (cLst (iCons (iC (.int 1)) (iCons (iC (.int 3)) iNil))))) (sRet (iC (.bl false))) sNext)
  (sSeq (sAsg (iCB cList (iCons (iVar 1) iNil)) (ctgName 4))
  (sSeq (sFor (itList (iFld (iVar 3) "tasks")) (ctgName 5) (sAsg (iOp fSub (iOp cAdd (iOp fIx (iOp fIx (iVar 0) (iVar 5)) (iC (.int 0))) (iOp fIx (iOp fIx (iVar 0) (iVar 5)) (iC (.int 1)))) (iOp fIx (iVar 4) (iVar 5))) (ctgSub (iVar 4) (iVar 5))))
  (sSeq (sIf (iOr (iB (iOp fNe (iCall c_loads (iCons (iC (.int 4)) (iCons (iVar 0) (iCons (iVar 4) iNil)))) (cLst (iCons (iC (.int 0)) (iCons (iC (.int 1)) (iCons (iC (.int 2)) (iCons (iC (.int 1)) iNil))))))) (iB (iOp fNe (iCall c_loads (iCons (iC (.int 4)) (iCons (iVar 0) (iCons (iVar 1) iNil)))) (cLst (iCons (iC (.int 1)) (iCons (iC (.int 1)) (iCons (iC (.int 2)) (iCons (iC (.int 0)) iNil)))))))) (sRet (iC (.bl false))) sNext)
  (sRet (iC (.bl true))))))))))))))))))))))))
theorem le_i__law_passed_right : Lf c__law_passed_right i__law_passed_right := by
  unfold c__law_passed_right i__law_passed_right; repeat' (with_reducible first | exact Lx.refl _ | exact Ls.refl _ | exact Lf.refl _ | exact Lo.refl _ | exact le_i_Chain_init | exact le_i_Chain_shows | exact le_i_Side_init | exact le_i_Side_shows | exact le_i_loads | exact le_i_passed | exact lo_lt | exact lo_le | exact lo_gt | exact lo_ge | exact lo_mul' | exact lo_add' | exact lf_sorted' | exact lf_sortedD' | exact lf_sortedSet' | exact lf_list' | exact lo_append' | exact lo_extend' | exact lo_pop' | exact lo_reverse' | exact tg_name' | exact tg_sub' | exact tg_nil' | refine tg_tup' ?_ | refine tg_cons' ?_ ?_ | refine ls_seq ?_ ?_ | refine ls_asg' ?_ ?_ | refine ls_if ?_ ?_ ?_ | refine ls_ret ?_ | refine ls_expr ?_ | refine ls_for' ?_ ?_ ?_ | refine ls_while ?_ ?_ | refine ls_par ?_ | refine ls_par3 ?_ | refine ls_try ?_ ?_ | refine ls_fldSet' ?_ ?_ | refine ls_dset' ?_ ?_ ?_ | refine ls_aug' ?_ | refine ls_augS' ?_ ?_ ?_ | refine lx_op ?_ ?_ ?_ | refine lx_un ?_ | refine lx_cons ?_ ?_ | refine lx_lst' ?_ | refine lx_tup' ?_ | refine lx_cb ?_ ?_ | refine lx_B ?_ | refine lx_and ?_ ?_ | refine lx_or ?_ ?_ | refine lx_not ?_ | refine lx_andV ?_ ?_ | refine lx_orV ?_ ?_ | refine lx_notV ?_ | refine lx_if ?_ ?_ ?_ | refine lx_chain ?_ ?_ ?_ ?_ ?_ | refine lx_call ?_ ?_ | refine lx_make' ?_ ?_ | refine lx_fld ?_ | refine lx_bm ?_ ?_ ?_ | refine lx_meth ?_ ?_ ?_ | refine lx_is ?_ ?_ ?_ | refine lx_sl' ?_ ?_ ?_ | refine lx_part ?_ | refine lx_rev' ?_ | exact lx_dnew' | refine lx_disp' ?_ ?_ | refine lx_listRg' ?_ | refine lx_dget ?_ ?_ | refine lx_din ?_ ?_ | refine lx_itList ?_ | refine lx_itTup ?_ | refine lx_itRng ?_ | refine lx_itEnum ?_ | refine lx_itZip ?_ ?_ | refine lx_lc' ?_ ?_ ?_ ?_ | refine lx_lcK' ?_ ?_ ?_ | refine lx_lcW' ?_ ?_ ?_ ?_ | refine lx_callW' ?_ ?_ | refine lx_callV ?_ ?_ | exact lx_lam' | exact lx_lam0' | exact lt_nil' | refine lt_cons' ?_ ?_ | refine lf_mk ?_ | refine lf_gc ?_ | refine lf_mkW' ?_ | refine lf_lam ?_ | exact rfl)
def c__law_rings_right : Fn := gcF (mkFn 0 7 (sSeq (sAsg (cLst (iCons (cTup (iCons (iC (.int 0)) (iCons (iC (.int 1)) iNil))) (iCons (cTup (iCons (iC (.int 1)) (iCons (iC (.int 2)) iNil))) (iCons (cTup (iCons (iC (.int 0)) (iCons (iC (.int 2)) iNil))) (iCons (cTup (iCons (iC (.int 0)) (iCons (iC (.int 1)) iNil))) (iCons (cTup (iCons (iC (.int 0)) (iCons (iC (.int 1)) iNil))) iNil)))))) (ctgName 0))
  (sSeq (sAsg (cTup (iCons (cLst (iCons (iC (.int 0)) (iCons (iC (.int 1)) (iCons (iC (.int 2)) (iCons (iC (.int 0)) (iCons (iC (.int 1)) iNil)))))) (iCons (cLst (iCons (iC (.int 1)) (iCons (iC (.int 2)) (iCons (iC (.int 0)) (iCons (iC (.int 1)) (iCons (iC (.int 0)) iNil)))))) iNil))) (tgTupN 2 [(ctgName 1), (ctgName 2)]))
  (sSeq (sAsg (iCall c_rings (iCons (iC (.int 3)) (iCons (iVar 0) (iCons (iVar 1) (iCons (iVar 2) iNil))))) (ctgName 3))
  (sSeq (sIf (iB (iOp fNe (iCall c_rings (iCons (iC (.int 3)) (iCons (iVar 0) (iCons (iVar 1) (iCons (iVar 1) iNil))))) (cLst iNil))) (sRet (iC (.bl false))) sNext)
  (sSeq (sIf (iB (iOp fNe (iCB cSortedF (iCons (cLc (itList (iVar 3)) (ctgName 4) iYes (iCB fLen (iCons (iVar 4) iNil)) [4]) iNil)) (cLst (iCons (iC (.int 2)) (iCons (iC (.int 3)) iNil))))) (sRet (iC (.bl false))) sNext)
  (sSeq (sFor (itList (iVar 3)) (ctgName 4) (sSeq (sFor (itZip (iVar 4) (iOp cAdd (cSl (iVar 4) (iPart (iC (.int 1))) iNoPart) (cSl (iVar 4) iNoPart (iPart (iC (.int 1)))))) (tgTupN 2 [(ctgName 5), (ctgName 6)]) (sIf (iOr (iB (iOp fNe (iOp fSub (iOp cAdd (iOp fIx (iOp fIx (iVar 0) (iVar 5)) (iC (.int 0))) (iOp fIx (iOp fIx (iVar 0) (iVar 5)) (iC (.int 1)))) (iOp fIx (iVar 1) (iVar 5))) (iOp fIx (iVar 1) (iVar 6)))) (iB (iOp fEq (iOp fIx (iVar 1) (iVar 5)) (iOp fIx (iVar 2) (iVar 5))))) (sRet (iC (.bl false))) sNext))
  (sIf (iB (iOp fLtB (iCB fLenSet (iCons (cLc (itList (iVar 4)) (ctgName 5) iYes (iOp fIx (iVar 1) (iVar 5)) [5]) iNil)) (iCB fLen (iCons (iVar 4) iNil)))) (sRet (iC (.bl false))) sNext)))
  (sRet (iC (.bl true))))))))))
theorem le_i__law_rings_right : Lf c__law_rings_right i__law_rings_right := by
  unfold c__law_rings_right i__law_rings_right; repeat' (with_reducible first | exact Lx.refl _ | exact Ls.refl _ | exact Lf.refl _ | exact Lo.refl _ | exact le_i_rings | exact lo_lt | exact lo_le | exact lo_gt | exact lo_ge | exact lo_mul' | exact lo_add' | exact lf_sorted' | exact lf_sortedD' | exact lf_sortedSet' | exact lf_list' | exact lo_append' | exact lo_extend' | exact lo_pop' | exact lo_reverse' | exact tg_name' | exact tg_sub' | exact tg_nil' | refine tg_tup' ?_ | refine tg_cons' ?_ ?_ | refine ls_seq ?_ ?_ | refine ls_asg' ?_ ?_ | refine ls_if ?_ ?_ ?_ | refine ls_ret ?_ | refine ls_expr ?_ | refine ls_for' ?_ ?_ ?_ | refine ls_while ?_ ?_ | refine ls_par ?_ | refine ls_par3 ?_ | refine ls_try ?_ ?_ | refine ls_fldSet' ?_ ?_ | refine ls_dset' ?_ ?_ ?_ | refine ls_aug' ?_ | refine ls_augS' ?_ ?_ ?_ | refine lx_op ?_ ?_ ?_ | refine lx_un ?_ | refine lx_cons ?_ ?_ | refine lx_lst' ?_ | refine lx_tup' ?_ | refine lx_cb ?_ ?_ | refine lx_B ?_ | refine lx_and ?_ ?_ | refine lx_or ?_ ?_ | refine lx_not ?_ | refine lx_andV ?_ ?_ | refine lx_orV ?_ ?_ | refine lx_notV ?_ | refine lx_if ?_ ?_ ?_ | refine lx_chain ?_ ?_ ?_ ?_ ?_ | refine lx_call ?_ ?_ | refine lx_make' ?_ ?_ | refine lx_fld ?_ | refine lx_bm ?_ ?_ ?_ | refine lx_meth ?_ ?_ ?_ | refine lx_is ?_ ?_ ?_ | refine lx_sl' ?_ ?_ ?_ | refine lx_part ?_ | refine lx_rev' ?_ | exact lx_dnew' | refine lx_disp' ?_ ?_ | refine lx_listRg' ?_ | refine lx_dget ?_ ?_ | refine lx_din ?_ ?_ | refine lx_itList ?_ | refine lx_itTup ?_ | refine lx_itRng ?_ | refine lx_itEnum ?_ | refine lx_itZip ?_ ?_ | refine lx_lc' ?_ ?_ ?_ ?_ | refine lx_lcK' ?_ ?_ ?_ | refine lx_lcW' ?_ ?_ ?_ ?_ | refine lx_callW' ?_ ?_ | refine lx_callV ?_ ?_ | exact lx_lam' | exact lx_lam0' | exact lt_nil' | refine lt_cons' ?_ ?_ | refine lf_mk ?_ | refine lf_gc ?_ | refine lf_mkW' ?_ | refine lf_lam ?_ | exact rfl)
def c__law_refused_right : Fn := cmkFnW 1 6 (sSeq (sAsg (cLst (iCons (cTup (iCons (iC (.int 0)) (iCons (iC (.int 1)) iNil))) iNil)) (ctgName 1))
  (sSeq (sAsg (cLst (iCons (cLam 0) (iCons (cLam 1) iNil))) (ctgName 2))
  (sSeq (sAsg (iOp cAdd (iVar 2) (cLst (iCons (cLam 2) iNil))) (ctgName 2))
  (sSeq (sAsg (iOp cAdd (iVar 2) (cLst (iCons (cLam 3) (iCons (cLam 4) iNil)))) (ctgName 2))
  (sSeq (sAsg (iOp cAdd (iVar 2) (cLst (iCons (cLam 5) (iCons (cLam 6) iNil)))) (ctgName 2))
  (sSeq (sAsg (iOp cAdd (iVar 2) (cLst (iCons (cLam 7) (iCons (cLam 8) iNil)))) (ctgName 2))
  (sSeq (sAsg (cLst (iCons (iC (.str "people")) (iCons (iC (.str "tasks")) (iCons (iC (.str "limits")) (iCons (iC (.str "people")) (iCons (iC (.str "person")) (iCons (iC (.str "sharing")) (iCons (iC (.str "unlike")) (iCons (iC (.str "sharing")) (iCons (iC (.str "sharing")) iNil)))))))))) (ctgName 3))
  (sSeq (sIf (iB (iOp fNe (cLcW caps__law_refused_right (itList (iVar 2)) (ctgName 5) iYes (iCall c__law_word (iCons (iVar 5) (iCons (iC .non) iNil))) [5]) (iVar 3))) (sRet (iC (.bl false))) sNext)
  (sSeq (sIf (iB (iOp fNe (cCallW caps__law_refused_right c__law_word (iCons (cLam 9) (iCons (iC (.int 2)) iNil))) (iC (.str "person")))) (sRet (iC (.bl false))) sNext)
  (sSeq (sIf (iB (iOp fNe (cCallW caps__law_refused_right c__law_word (iCons (cLam 10) (iCons (iC (.int 2)) iNil))) (iC (.str "person")))) (sRet (iC (.bl false))) sNext)
  (sSeq (sFor (itTup (cTup (iCons (cLst (iCons (cTup (iCons (iC (.int 1)) (iCons (iC (.int 0)) iNil))) iNil)) (iCons (cLst (iCons (cTup (iCons (iC (.int 0)) (iCons (iC (.int 0)) iNil))) iNil)) (iCons (cLst (iCons (cLst (iCons (iC (.int 0)) (iCons (iC (.int 1)) iNil))) iNil)) (iCons (cLst (iCons (cTup (iCons (iC (.int 0)) (iCons (iC (.int 2)) iNil))) iNil)) (iCons (cLst (iCons (cTup (iCons (iC (.int 0)) (iCons (iC (.bl true)) iNil))) iNil)) (iCons (cTup (iCons (cTup (iCons (iC (.int 0)) (iCons (iC (.int 1)) iNil))) iNil)) (iCons (cLst (iCons (cTup (iCons (iC (.int 0)) iNil)) iNil)) (iCons (cLst (iCons (iC .non) iNil)) iNil)))))))))) (ctgName 4) (sIf (iB (iOp fNe (cCallW caps__law_refused_right c__law_word (iCons (cLam 11) (iCons (iVar 4) iNil))) (iC (.str "tasks")))) (sRet (iC (.bl false))) sNext))
  (sSeq (sFor (itTup (cTup (iCons (cLst (iCons (iC (.int 0)) iNil)) (iCons (cLst (iCons (iC (.int 0)) (iCons (iUn fNegB (iC (.int 1))) iNil))) (iCons (cLst (iCons (iC (.int 0)) (iCons (iC (.bl true)) iNil))) (iCons (cTup (iCons (iC (.int 0)) (iCons (iC (.int 0)) iNil))) (iCons (cLst (iCons (iC (.int 0)) (iCons (iC (.int 0)) (iCons (iC (.int 0)) iNil)))) (iCons (cLst (iCons (iC (.int 0)) (iCons (iC .non) iNil))) (iCons (cLst (iCons (iUn fNegB (iVar 0)) (iCons (iC (.int 0)) iNil))) iNil))))))))) (ctgName 4) (sIf (iB (iOp fNe (cCallW caps__law_refused_right c__law_word (iCons (cLam 12) (iCons (iVar 4) iNil))) (iC (.str "limits")))) (sRet (iC (.bl false))) sNext))
  (sRet (iCB fAll (iCons (cLcW caps__law_refused_right (itTup (cTup (iCons (iC (.int 0)) (iCons (iUn fNegB (iC (.int 1))) (iCons (iC (.bl true)) (iCons (iC (.int 61)) (iCons (iVar 0) (iCons (iC .non) (iCons (iC (.str "2")) iNil))))))))) (ctgName 4) iYes (iOp fEq (iCall c__law_word (iCons (cLam0 13) (iCons (iVar 4) iNil))) (iC (.str "people"))) [4]) iNil)))))))))))))))
theorem le_i__law_refused_right : Lf c__law_refused_right i__law_refused_right := by
  unfold c__law_refused_right i__law_refused_right; repeat' (with_reducible first | exact Lx.refl _ | exact Ls.refl _ | exact Lf.refl _ | exact Lo.refl _ | exact le_i__law_word | exact lo_lt | exact lo_le | exact lo_gt | exact lo_ge | exact lo_mul' | exact lo_add' | exact lf_sorted' | exact lf_sortedD' | exact lf_sortedSet' | exact lf_list' | exact lo_append' | exact lo_extend' | exact lo_pop' | exact lo_reverse' | exact tg_name' | exact tg_sub' | exact tg_nil' | refine tg_tup' ?_ | refine tg_cons' ?_ ?_ | refine ls_seq ?_ ?_ | refine ls_asg' ?_ ?_ | refine ls_if ?_ ?_ ?_ | refine ls_ret ?_ | refine ls_expr ?_ | refine ls_for' ?_ ?_ ?_ | refine ls_while ?_ ?_ | refine ls_par ?_ | refine ls_par3 ?_ | refine ls_try ?_ ?_ | refine ls_fldSet' ?_ ?_ | refine ls_dset' ?_ ?_ ?_ | refine ls_aug' ?_ | refine ls_augS' ?_ ?_ ?_ | refine lx_op ?_ ?_ ?_ | refine lx_un ?_ | refine lx_cons ?_ ?_ | refine lx_lst' ?_ | refine lx_tup' ?_ | refine lx_cb ?_ ?_ | refine lx_B ?_ | refine lx_and ?_ ?_ | refine lx_or ?_ ?_ | refine lx_not ?_ | refine lx_andV ?_ ?_ | refine lx_orV ?_ ?_ | refine lx_notV ?_ | refine lx_if ?_ ?_ ?_ | refine lx_chain ?_ ?_ ?_ ?_ ?_ | refine lx_call ?_ ?_ | refine lx_make' ?_ ?_ | refine lx_fld ?_ | refine lx_bm ?_ ?_ ?_ | refine lx_meth ?_ ?_ ?_ | refine lx_is ?_ ?_ ?_ | refine lx_sl' ?_ ?_ ?_ | refine lx_part ?_ | refine lx_rev' ?_ | exact lx_dnew' | refine lx_disp' ?_ ?_ | refine lx_listRg' ?_ | refine lx_dget ?_ ?_ | refine lx_din ?_ ?_ | refine lx_itList ?_ | refine lx_itTup ?_ | refine lx_itRng ?_ | refine lx_itEnum ?_ | refine lx_itZip ?_ ?_ | refine lx_lc' ?_ ?_ ?_ ?_ | refine lx_lcK' ?_ ?_ ?_ | refine lx_lcW' ?_ ?_ ?_ ?_ | refine lx_callW' ?_ ?_ | refine lx_callV ?_ ?_ | exact lx_lam' | exact lx_lam0' | exact lt_nil' | refine lt_cons' ?_ ?_ | refine lf_mk ?_ | refine lf_gc ?_ | refine lf_mkW' ?_ | refine lf_lam ?_ | exact rfl)
end IL

end
section
set_option linter.all false
set_option maxRecDepth 1000000
namespace IL
theorem lim10 : isT (c__law_limits_right [.big false] []) = true := by kernel_rfl
theorem pass10 : isT (c__law_passed_right [] []) = true := by kernel_rfl
theorem ring10 : isT (c__law_rings_right [] []) = true := by kernel_rfl
end IL

end
section
set_option linter.all false
set_option maxRecDepth 1000000
namespace IL
theorem even10 : isT (c__law_even_right [] []) = true := by kernel_rfl
end IL

end
section
set_option linter.all false
set_option maxRecDepth 1000000
namespace IL
theorem ref10 : isT (c__law_refused_right [.big false] []) = true := by kernel_rfl
end IL

end
section
set_option linter.all false
set_option maxRecDepth 1000000
set_option maxHeartbeats 1000000
namespace IL
open PySem L2
theorem cut_ints (ns : List Int) (a b : Option Int) : cut (ns.map Va.int) a b = (cut ns a b).map .int := by
  unfold cut; simp [List.map_take, List.map_drop]
theorem asIs_ints (ns : List Int) : asIs (ns.map Va.int) = some ns := by
  unfold asIs
  induction ns with
  | nil => rfl
  | cons x r ih => simp only [List.map_cons, asI, allO] at ih ⊢; rw [ih]
theorem run_1 {a : IE} {ρ : Env} {S S1 : Sto} {x : Va} (h : a ρ S = .ok x S1) : iCons a iNil ρ S = .ok [x] S1 := by unfold iCons; rw [h]; rfl
theorem run_cb {f : List Va → Sto → R Va} {a : IA} {ρ : Env} {S S1 : Sto} {xs : List Va} {r : R Va} (h : a ρ S = .ok xs S1) (h2 : f xs S1 = r) : iCB f a ρ S = r := by unfold iCB; rw [h]; exact h2
theorem run_op {f : Va → Va → Sto → R Va} {a b : IE} {ρ : Env} {S S1 S2 : Sto} {x y : Va} (h : a ρ S = .ok x S1) (h2 : b ρ S1 = .ok y S2) : iOp f a b ρ S = f x y S2 := by unfold iOp; rw [h]; show R.bind (b ρ S1) _ = _; rw [h2]; rfl
theorem cut2 (ns : List Int) : cut ns none (some 2) = ns.take 2 := by
  unfold cut
  have h0 : HT.sIx ns.length 0 none = 0 := rfl
  have h2 : HT.sIx ns.length ns.length (some 2) = min 2 ns.length := by
    unfold HT.sIx; simp <;> omega
  rw [h0, h2, List.drop_zero, Nat.sub_zero]
  rcases Nat.le_total 2 ns.length with h | h
  · rw [Nat.min_eq_left h]
  · rw [Nat.min_eq_right h, List.take_length, List.take_of_length_le h]
theorem law_at (ns : List Int) (x : Va) (S : Sto) (hx : getL S x = some (ns.map .int)) (hS : S.all seenO = true) : ∃ S', i_law ns [x] S = .ok (.bl true) S' := by
  let S1 : Sto := S ++ [.lst ((cut ns none (some 2)).map .int)]
  let far : Int := farOf ns
  have hS1 : S1.all seenO = true := by simp only [S1, List.all_append, hS, Bool.true_and]; rfl
  have E0 : ∀ (f f' : Fn) (xs : List Va), LeR (f xs []) (f' xs []) → isT (f xs []) = true → ∃ S', f' xs [] = .ok (.bl true) S' := fun f f' xs h e => ok_of_isT h e
  have e1 : (iOp fAdd (iOp fPow (iC (.int 10)) (iC (.int 30))) (iCB fAbs (iCons (iCB fSum (iCons (iSl (iVar 0) iNoPart (iPart (iC (.int 2)))) iNil)) iNil))) [some x, none] S = .ok (.int far) S1 := by
    have q : getL S1 (.ref S.length) = some ((cut ns none (some 2)).map .int) := by simp [S1, getL]
    have q1 : iSl (iVar 0) iNoPart (iPart (iC (.int 2))) [some x, none] S = .ok (.ref S.length) S1 := by
      unfold iSl
      rw [show iVar 0 [some x, none] S = .ok x S from rfl, R.bind_ok]
      show (match getL S x with | some xs => R.ok (Va.ref S.length) (S ++ [Ob.lst (cut xs none (some 2))]) | none => .no) = _
      rw [hx]; dsimp only; rw [cut_ints]
    have q3 : fSum [.ref S.length] S1 = .ok (.int (cut ns none (some 2)).sum) S1 := by simp only [fSum, q, Option.bind_some, asIs_ints]
    have q4 : iCB fAbs (iCons (iCB fSum (iCons (iSl (iVar 0) iNoPart (iPart (iC (.int 2)))) iNil)) iNil) [some x, none] S = .ok (.int ((cut ns none (some 2)).sum.natAbs : Int)) S1 :=
      run_cb (run_1 (run_cb (run_1 q1) q3)) rfl
    have q5 : iOp fPow (iC (.int 10)) (iC (.int 30)) [some x, none] S = .ok (.int (10 ^ 30)) S := by
      simp only [iOp, iC, R.bind_ok, fPow]
      rw [if_pos (by decide)]; rfl
    exact (run_op q5 q4).trans (by show R.ok (Va.int ((10 : Int) ^ 30 + _)) S1 = _; rw [cut2]; rfl)
  have far1 : [some x, none].set 1 (some (Va.int far)) = [some x, some (.int far)] := rfl
  have av : ∀ S, iCons (iVar 1) iNil [some x, some (.int far)] S = .ok [.int far] S := fun S => rfl
  have hL : iCallE (farOf ns) i__law_limits_right (iCons (iVar 1) iNil) [some x, some (.int far)] S1 = .ok (.bl true) S1 := callE_run rfl rfl hS1 (by rw [show [Va.int far].map (toBig far) = [.big false] by show [if far = far then Va.big false else Va.int far] = _; rw [if_pos rfl]]; exact E0 _ _ _ (le_i__law_limits_right _ _) lim10) rfl
  have hE : iCallE (farOf ns) i__law_even_right iNil [some x, some (.int far)] S1 = .ok (.bl true) S1 := callE_run rfl rfl hS1 (E0 _ _ _ (le_i__law_even_right _ _) even10) rfl
  have hP : iCallE (farOf ns) i__law_passed_right iNil [some x, some (.int far)] S1 = .ok (.bl true) S1 := callE_run rfl rfl hS1 (E0 _ _ _ (le_i__law_passed_right _ _) pass10) rfl
  have hR : iCallE (farOf ns) i__law_rings_right iNil [some x, some (.int far)] S1 = .ok (.bl true) S1 := callE_run rfl rfl hS1 (E0 _ _ _ (le_i__law_rings_right _ _) ring10) rfl
  have hF : iCallE (farOf ns) i__law_refused_right (iCons (iVar 1) iNil) [some x, some (.int far)] S1 = .ok (.bl true) S1 := callE_run rfl rfl hS1 (by rw [show [Va.int far].map (toBig far) = [.big false] by show [if far = far then Va.big false else Va.int far] = _; rw [if_pos rfl]]; exact E0 _ _ _ (le_i__law_refused_right _ _) ref10) rfl
  refine ⟨S1, ?_⟩
  unfold i_law mkFn
  rw [if_pos (show [x].length = 1 from rfl)]
  show O.val (sSeq _ _ [some x, none] S) = _
  unfold sSeq
  rw [show sAsg _ (tgName 1) [some x, none] S = .nx [some x, some (.int far)] S1 by unfold sAsg; rw [e1]; rfl]
  simp only [O.seq_nx, sIf, iOr, iNot, iB, hL, hE, R.bind_ok, asB, R.toO_ok, Bool.not_true, Bool.false_eq_true, if_false, sNext, sRet, iAndV, hP, hR, hF, if_true]
  rfl
theorem law_true10 {ns : List Int} (hl : ns.length ≤ 63) (hb : ∀ z ∈ ns, PySem.Builtin.Int.intBits z ≤ 1048576) : LawT i_law ns := ⟨law_at ns _ _ rfl rfl, law_at ns _ _ rfl rfl⟩
end IL

end
section
set_option Elab.async false
set_option linter.all false
set_option maxRecDepth 100000
set_option maxHeartbeats 4000000
namespace IL
open PySem L2
section
variable {P : Program} {w : World} {g : Gm} {mg : Str → Option Value} {base : Heap}

theorem chain (T : ∀ own cb, Tx { g with own := own, cb := cb } mg) (hl : g.lam = lamT) {f0 : Addr} {fd0 : FuncData} (F0 : Fun g.K "is_number" "is_number" s_is_number f0 fd0) (m0 : mg "is_number" = some (.ref f0)) (b0 : Binds g.K fd0 ["thing", "least"] []) {f1 : Addr} {fd1 : FuncData} (F1 : Fun g.K "is_task" "is_task" s_is_task f1 fd1) (m1 : mg "is_task" = some (.ref f1)) (b1 : Binds g.K fd1 ["thing", "people"] []) {f2 : Addr} {fd2 : FuncData} (F2 : Fun g.K "check_tasks" "check_tasks" s_check_tasks f2 fd2) (m2 : mg "check_tasks" = some (.ref f2)) (b2 : Binds g.K fd2 ["people", "tasks"] []) {f3 : Addr} {fd3 : FuncData} (F3 : Fun g.K "check_limits" "check_limits" s_check_limits f3 fd3) (m3 : mg "check_limits" = some (.ref f3)) (b3 : Binds g.K fd3 ["people", "limits"] []) {f4 : Addr} {fd4 : FuncData} (F4 : Fun g.K "is_sharing" "is_sharing" s_is_sharing f4 fd4) (m4 : mg "is_sharing" = some (.ref f4)) (b4 : Binds g.K fd4 ["tasks", "sharing"] []) {f5 : Addr} {fd5 : FuncData} (F5 : Fun g.K "check_sharing" "check_sharing" s_check_sharing f5 fd5) (m5 : mg "check_sharing" = some (.ref f5)) (b5 : Binds g.K fd5 ["tasks", "sharing"] []) {f6 : Addr} {fd6 : FuncData} (F6 : Fun g.K "loads_of" "loads_of" s_loads_of f6 fd6) (m6 : mg "loads_of" = some (.ref f6)) (b6 : Binds g.K fd6 ["people", "sharing"] []) {f7 : Addr} {fd7 : FuncData} (F7 : Fun g.K "loads" "loads" s_loads f7 fd7) (m7 : mg "loads" = some (.ref f7)) (b7 : Binds g.K fd7 ["people", "tasks", "sharing"] []) {f8 : Addr} {fd8 : FuncData} (F8 : Fun g.K "second_of" "second_of" s_second_of f8 fd8) (m8 : mg "second_of" = some (.ref f8)) (b8 : Binds g.K fd8 ["task", "who"] []) {f9 : Addr} {fd9 : FuncData} (F9 : Fun g.K "among" "among" s_among f9 fd9) (m9 : mg "among" = some (.ref f9)) (b9 : Binds g.K fd9 ["tasks", "some"] []) {f10 : Addr} {fd10 : FuncData} (F10 : Fun g.K "are_people" "are_people" s_are_people f10 fd10) (m10 : mg "are_people" = some (.ref f10)) (b10 : Binds g.K fd10 ["some", "people"] []) {f11 : Addr} {fd11 : FuncData} (F11 : Fun g.K "__init__" "Shared.__init__" s_Shared_init f11 fd11) (m11 : Mk g.K (g.γ "Shared") f11) (b11 : Binds g.K fd11 ["self", "sharing"] []) {f12 : Addr} {fd12 : FuncData} (F12 : Fun g.K "shows" "Shared.shows" s_Shared_shows f12 fd12) (m12 : Meth g.K (g.γ "Shared") "shows" f12) (b12 : Binds g.K fd12 ["self", "people", "tasks", "limits"] []) {f13 : Addr} {fd13 : FuncData} (F13 : Fun g.K "__init__" "Crowd.__init__" s_Crowd_init f13 fd13) (m13 : Mk g.K (g.γ "Crowd") f13) (b13 : Binds g.K fd13 ["self", "some"] []) {f14 : Addr} {fd14 : FuncData} (F14 : Fun g.K "shows" "Crowd.shows" s_Crowd_shows f14 fd14) (m14 : Meth g.K (g.γ "Crowd") "shows" f14) (b14 : Binds g.K fd14 ["self", "people", "tasks", "limits"] []) {f15 : Addr} {fd15 : FuncData} (F15 : Fun g.K "__init__" "Even.__init__" s_Even_init f15 fd15) (m15 : Mk g.K (g.γ "Even") f15) (b15 : Binds g.K fd15 ["self", "sharing", "some"] []) {f16 : Addr} {fd16 : FuncData} (F16 : Fun g.K "shows" "Even.shows" s_Even_shows f16 fd16) (m16 : Meth g.K (g.γ "Even") "shows" f16) (b16 : Binds g.K fd16 ["self", "people", "tasks"] []) {f17 : Addr} {fd17 : FuncData} (F17 : Fun g.K "__init__" "Chain.__init__" s_Chain_init f17 fd17) (m17 : Mk g.K (g.γ "Chain") f17) (b17 : Binds g.K fd17 ["self", "tasks"] []) {f18 : Addr} {fd18 : FuncData} (F18 : Fun g.K "shows" "Chain.shows" s_Chain_shows f18 fd18) (m18 : Meth g.K (g.γ "Chain") "shows" f18) (b18 : Binds g.K fd18 ["self", "people", "tasks", "sharing", "one", "other"] []) {f19 : Addr} {fd19 : FuncData} (F19 : Fun g.K "__init__" "Side.__init__" s_Side_init f19 fd19) (m19 : Mk g.K (g.γ "Side") f19) (b19 : Binds g.K fd19 ["self", "some"] []) {f20 : Addr} {fd20 : FuncData} (F20 : Fun g.K "shows" "Side.shows" s_Side_shows f20 fd20) (m20 : Meth g.K (g.γ "Side") "shows" f20) (b20 : Binds g.K fd20 ["self", "people", "tasks", "sharing", "one", "other"] []) {f21 : Addr} {fd21 : FuncData} (F21 : Fun g.K "came_from" "came_from" s_came_from f21 fd21) (m21 : mg "came_from" = some (.ref f21)) (b21 : Binds g.K fd21 ["tasks", "sharing", "begins"] []) {f22 : Addr} {fd22 : FuncData} (F22 : Fun g.K "chain_to" "chain_to" s_chain_to f22 fd22) (m22 : mg "chain_to" = some (.ref f22)) (b22 : Binds g.K fd22 ["tasks", "came", "person"] []) {f23 : Addr} {fd23 : FuncData} (F23 : Fun g.K "share" "share" s_share f23 fd23) (m23 : mg "share" = some (.ref f23)) (b23 : Binds g.K fd23 ["people", "tasks", "limits"] []) {f24 : Addr} {fd24 : FuncData} (F24 : Fun g.K "shared" "shared" s_shared f24 fd24) (m24 : mg "shared" = some (.ref f24)) (b24 : Binds g.K fd24 ["people", "tasks", "limits"] []) {f25 : Addr} {fd25 : FuncData} (F25 : Fun g.K "evenest" "evenest" s_evenest f25 fd25) (m25 : mg "evenest" = some (.ref f25)) (b25 : Binds g.K fd25 ["people", "tasks"] []) {f26 : Addr} {fd26 : FuncData} (F26 : Fun g.K "passed" "passed" s_passed f26 fd26) (m26 : mg "passed" = some (.ref f26)) (b26 : Binds g.K fd26 ["people", "tasks", "sharing", "one", "other"] []) {f27 : Addr} {fd27 : FuncData} (F27 : Fun g.K "rings_from" "rings_from" s_rings_from f27 fd27) (m27 : mg "rings_from" = some (.ref f27)) (b27 : Binds g.K fd27 ["person", "giving", "another"] []) {f28 : Addr} {fd28 : FuncData} (F28 : Fun g.K "rings" "rings" s_rings f28 fd28) (m28 : mg "rings" = some (.ref f28)) (b28 : Binds g.K fd28 ["people", "tasks", "sharing", "another"] []) {f29 : Addr} {fd29 : FuncData} (F29 : Fun g.K "_law_word" "_law_word" s__law_word f29 fd29) (m29 : mg "_law_word" = some (.ref f29)) (b29 : Binds g.K fd29 ["_law_ask", "_law_thing"] []) {f30 : Addr} {fd30 : FuncData} (F30 : Fun g.K "_law_limits_right" "_law_limits_right" s__law_limits_right f30 fd30) (m30 : mg "_law_limits_right" = some (.ref f30)) (b30 : Binds g.K fd30 ["_law_far"] []) {f31 : Addr} {fd31 : FuncData} (F31 : Fun g.K "_law_even_right" "_law_even_right" s__law_even_right f31 fd31) (m31 : mg "_law_even_right" = some (.ref f31)) (b31 : Binds g.K fd31 [] []) {f32 : Addr} {fd32 : FuncData} (F32 : Fun g.K "_law_passed_right" "_law_passed_right" s__law_passed_right f32 fd32) (m32 : mg "_law_passed_right" = some (.ref f32)) (b32 : Binds g.K fd32 [] []) {f33 : Addr} {fd33 : FuncData} (F33 : Fun g.K "_law_rings_right" "_law_rings_right" s__law_rings_right f33 fd33) (m33 : mg "_law_rings_right" = some (.ref f33)) (b33 : Binds g.K fd33 [] []) {f34 : Addr} {fd34 : FuncData} (F34 : Fun g.K "_law_refused_right" "_law_refused_right" s__law_refused_right f34 fd34) {cA34 PA34 : Addr} (hk34 : fd34.code = .ref cA34) (TB34 : LamX.TabB base mg cA34 PA34) (hm34 : (PA34, ("_law_refused_right.<locals>.<lambda>" : Str)) ∈ g.T) (hu34 : ∀ p ∈ g.T, p.1 = PA34 → p.2 = ("_law_refused_right.<locals>.<lambda>" : Str)) (m34 : mg "_law_refused_right" = some (.ref f34)) (b34 : Binds g.K fd34 ["_law_far"] []) {f35 : Addr} {fd35 : FuncData} (F35 : Fun g.K "law" "law" s_law f35 fd35) : FnOk P w g.K mg base (CXN P w) 8 f35 fd35 ["_law_script"] (iSpX (g.b base) (i_law g.ns)) := by
  have Tb : ∀ bs, Tx (g.b bs) mg := fun bs => T _ _
  have To : ∀ bs cells, Tx ((g.b bs).o cells) mg := fun bs cells => T _ _
  have c_is_number : ∀ base : Heap, Cal P w g.K mg base (CXN P w) 1 "is_number" ["thing", "least"] (iSpX (g.b base) i_is_number) := fun base => ⟨_, _, ok_is_number (g := g.b base) (base := base) F0 (Tb base) , m0, F0.kp, b0⟩
  have c_is_task : ∀ base : Heap, Cal P w g.K mg base (CXN P w) 2 "is_task" ["thing", "people"] (iSpX (g.b base) i_is_task) := fun base => ⟨_, _, ok_is_task (g := g.b base) (base := base) F1 (Tb base) (c_is_number base), m1, F1.kp, b1⟩
  have c_check_tasks : ∀ base : Heap, Cal P w g.K mg base (CXN P w) 3 "check_tasks" ["people", "tasks"] (iSpX (g.b base) i_check_tasks) := fun base => ⟨_, _, ok_check_tasks (g := g.b base) (base := base) F2 (Tb base) (c_is_number base) (c_is_task base), m2, F2.kp, b2⟩
  have c_check_limits : ∀ base : Heap, Cal P w g.K mg base (CXN P w) 2 "check_limits" ["people", "limits"] (iSpX (g.b base) i_check_limits) := fun base => ⟨_, _, ok_check_limits (g := g.b base) (base := base) F3 (Tb base) (c_is_number base), m3, F3.kp, b3⟩
  have c_is_sharing : ∀ base : Heap, Cal P w g.K mg base (CXN P w) 2 "is_sharing" ["tasks", "sharing"] (iSpX (g.b base) i_is_sharing) := fun base => ⟨_, _, ok_is_sharing (g := g.b base) (base := base) F4 (Tb base) (c_is_number base), m4, F4.kp, b4⟩
  have c_check_sharing : ∀ base : Heap, Cal P w g.K mg base (CXN P w) 3 "check_sharing" ["tasks", "sharing"] (iSpX (g.b base) i_check_sharing) := fun base => ⟨_, _, ok_check_sharing (g := g.b base) (base := base) F5 (Tb base) (c_is_sharing base), m5, F5.kp, b5⟩
  have c_loads_of : ∀ base : Heap, Cal P w g.K mg base (CXN P w) 1 "loads_of" ["people", "sharing"] (iSpX (g.b base) i_loads_of) := fun base => ⟨_, _, ok_loads_of (g := g.b base) (base := base) F6 (Tb base) , m6, F6.kp, b6⟩
  have c_loads : ∀ base : Heap, Cal P w g.K mg base (CXN P w) 4 "loads" ["people", "tasks", "sharing"] (iSpX (g.b base) i_loads) := fun base => ⟨_, _, ok_loads (g := g.b base) (base := base) F7 (Tb base) (c_check_tasks base) (c_check_sharing base) (c_loads_of base), m7, F7.kp, b7⟩
  have c_second_of : ∀ base : Heap, Cal P w g.K mg base (CXN P w) 1 "second_of" ["task", "who"] (iSpX (g.b base) i_second_of) := fun base => ⟨_, _, ok_second_of (g := g.b base) (base := base) F8 (Tb base) , m8, F8.kp, b8⟩
  have c_among : ∀ base : Heap, Cal P w g.K mg base (CXN P w) 1 "among" ["tasks", "some"] (iSpX (g.b base) i_among) := fun base => ⟨_, _, ok_among (g := g.b base) (base := base) F9 (Tb base) , m9, F9.kp, b9⟩
  have c_are_people : ∀ base : Heap, Cal P w g.K mg base (CXN P w) 1 "are_people" ["some", "people"] (iSpX (g.b base) i_are_people) := fun base => ⟨_, _, ok_are_people (g := g.b base) (base := base) F10 (Tb base) , m10, F10.kp, b10⟩
  have m_Shared : ∀ base : Heap, MkcX P w g.K mg base 1 "Shared" (g.γ "Shared") ["self", "sharing"] (iSpX (g.b base) i_Shared_init) := fun base => ⟨_, _, ok_Shared_init (g := g.b base) (base := base) F11 (Tb base) , m11, (Tb base).g_Shared, b11⟩
  have c_Shared_shows : ∀ base : Heap, McalX P w g.K mg base 3 (g.γ "Shared") "shows" ["self", "people", "tasks", "limits"] (iSpX (g.b base) i_Shared_shows) := fun base => ⟨_, _, ok_Shared_shows (g := g.b base) (base := base) F12 (Tb base) (c_is_sharing base) (c_loads_of base), (Tb base).cl.cls "Shared" (by decide +kernel), m12, b12⟩
  have m_Crowd : ∀ base : Heap, MkcX P w g.K mg base 1 "Crowd" (g.γ "Crowd") ["self", "some"] (iSpX (g.b base) i_Crowd_init) := fun base => ⟨_, _, ok_Crowd_init (g := g.b base) (base := base) F13 (Tb base) , m13, (Tb base).g_Crowd, b13⟩
  have c_Crowd_shows : ∀ base : Heap, McalX P w g.K mg base 2 (g.γ "Crowd") "shows" ["self", "people", "tasks", "limits"] (iSpX (g.b base) i_Crowd_shows) := fun base => ⟨_, _, ok_Crowd_shows (g := g.b base) (base := base) F14 (Tb base) (c_are_people base) (c_among base), (Tb base).cl.cls "Crowd" (by decide +kernel), m14, b14⟩
  have m_Even : ∀ base : Heap, MkcX P w g.K mg base 1 "Even" (g.γ "Even") ["self", "sharing", "some"] (iSpX (g.b base) i_Even_init) := fun base => ⟨_, _, ok_Even_init (g := g.b base) (base := base) F15 (Tb base) , m15, (Tb base).g_Even, b15⟩
  have c_Even_shows : ∀ base : Heap, McalX P w g.K mg base 3 (g.γ "Even") "shows" ["self", "people", "tasks"] (iSpX (g.b base) i_Even_shows) := fun base => ⟨_, _, ok_Even_shows (g := g.b base) (base := base) F16 (Tb base) (c_is_sharing base) (c_are_people base) (c_loads_of base) (c_among base), (Tb base).cl.cls "Even" (by decide +kernel), m16, b16⟩
  have m_Chain : ∀ base : Heap, MkcX P w g.K mg base 1 "Chain" (g.γ "Chain") ["self", "tasks"] (iSpX (g.b base) i_Chain_init) := fun base => ⟨_, _, ok_Chain_init (g := g.b base) (base := base) F17 (Tb base) , m17, (Tb base).g_Chain, b17⟩
  have c_Chain_shows : ∀ base : Heap, McalX P w g.K mg base 2 (g.γ "Chain") "shows" ["self", "people", "tasks", "sharing", "one", "other"] (iSpX (g.b base) i_Chain_shows) := fun base => ⟨_, _, ok_Chain_shows (g := g.b base) (base := base) F18 (Tb base) (c_second_of base), (Tb base).cl.cls "Chain" (by decide +kernel), m18, b18⟩
  have m_Side : ∀ base : Heap, MkcX P w g.K mg base 1 "Side" (g.γ "Side") ["self", "some"] (iSpX (g.b base) i_Side_init) := fun base => ⟨_, _, ok_Side_init (g := g.b base) (base := base) F19 (Tb base) , m19, (Tb base).g_Side, b19⟩
  have c_Side_shows : ∀ base : Heap, McalX P w g.K mg base 2 (g.γ "Side") "shows" ["self", "people", "tasks", "sharing", "one", "other"] (iSpX (g.b base) i_Side_shows) := fun base => ⟨_, _, ok_Side_shows (g := g.b base) (base := base) F20 (Tb base) (c_are_people base) (c_second_of base), (Tb base).cl.cls "Side" (by decide +kernel), m20, b20⟩
  have c_came_from : ∀ base : Heap, Cal P w g.K mg base (CXN P w) 2 "came_from" ["tasks", "sharing", "begins"] (iSpX (g.b base) i_came_from) := fun base => ⟨_, _, ok_came_from (g := g.b base) (base := base) F21 (Tb base) (c_second_of base), m21, F21.kp, b21⟩
  have c_chain_to : ∀ base : Heap, Cal P w g.K mg base (CXN P w) 2 "chain_to" ["tasks", "came", "person"] (iSpX (g.b base) i_chain_to) := fun base => ⟨_, _, ok_chain_to (g := g.b base) (base := base) F22 (Tb base) (c_second_of base), m22, F22.kp, b22⟩
  have c_share : ∀ base : Heap, Cal P w g.K mg base (CXN P w) 3 "share" ["people", "tasks", "limits"] (iSpX (g.b base) i_share) := fun base => ⟨_, _, ok_share (g := g.b base) (base := base) F23 (Tb base) (c_came_from base) (c_chain_to base) (c_second_of base), m23, F23.kp, b23⟩
  have c_shared : ∀ base : Heap, Cal P w g.K mg base (CXN P w) 4 "shared" ["people", "tasks", "limits"] (iSpX (g.b base) i_shared) := fun base => ⟨_, _, ok_shared (g := g.b base) (base := base) F24 (Tb base) (c_check_tasks base) (c_check_limits base) (c_share base) (m_Shared base) (m_Crowd base), m24, F24.kp, b24⟩
  have c_evenest : ∀ base : Heap, Cal P w g.K mg base (CXN P w) 4 "evenest" ["people", "tasks"] (iSpX (g.b base) i_evenest) := fun base => ⟨_, _, ok_evenest (g := g.b base) (base := base) F25 (Tb base) (c_check_tasks base) (c_share base) (m_Even base), m25, F25.kp, b25⟩
  have c_passed : ∀ base : Heap, Cal P w g.K mg base (CXN P w) 4 "passed" ["people", "tasks", "sharing", "one", "other"] (iSpX (g.b base) i_passed) := fun base => ⟨_, _, ok_passed (g := g.b base) (base := base) F26 (Tb base) (c_check_tasks base) (c_check_sharing base) (c_is_number base) (c_came_from base) (m_Side base) (m_Chain base) (c_chain_to base), m26, F26.kp, b26⟩
  have c_rings_from : ∀ base : Heap, Cal P w g.K mg base (CXN P w) 1 "rings_from" ["person", "giving", "another"] (iSpX (g.b base) i_rings_from) := fun base => ⟨_, _, ok_rings_from (g := g.b base) (base := base) F27 (Tb base) , m27, F27.kp, b27⟩
  have c_rings : ∀ base : Heap, Cal P w g.K mg base (CXN P w) 4 "rings" ["people", "tasks", "sharing", "another"] (iSpX (g.b base) i_rings) := fun base => ⟨_, _, ok_rings (g := g.b base) (base := base) F28 (Tb base) (c_check_tasks base) (c_check_sharing base) (c_loads_of base) (c_rings_from base), m28, F28.kp, b28⟩
  have c__law_word : ∀ base : Heap, Cal P w g.K mg base (CXN P w) 6 "_law_word" ["_law_ask", "_law_thing"] (iSpX (g.b base) i__law_word) := fun base => ⟨_, _, ok__law_word (g := g) (base := base) F29 (Tb base) (lt_cons (m := 5) (ps := ["_law_one"]) (by decide) (by rw [hl]; exact lok_0 (g := g.b base) (Tb base) (c_loads base)) (lt_cons (m := 5) (ps := ["_law_two"]) (by decide) (by rw [hl]; exact lok_1 (g := g.b base) (Tb base) (c_shared base)) (lt_cons (m := 5) (ps := ["_law_six"]) (by decide) (by rw [hl]; exact lok_2 (g := g.b base) (Tb base) (c_shared base)) (lt_cons (m := 5) (ps := ["_law_it"]) (by decide) (by rw [hl]; exact lok_3 (g := g.b base) (Tb base) (c_evenest base)) (lt_cons (m := 5) (ps := ["_law_me"]) (by decide) (by rw [hl]; exact lok_4 (g := g.b base) (Tb base) (c_passed base)) (lt_cons (m := 5) (ps := ["_law_us"]) (by decide) (by rw [hl]; exact lok_5 (g := g.b base) (Tb base) (c_passed base)) (lt_cons (m := 5) (ps := ["_law_them"]) (by decide) (by rw [hl]; exact lok_6 (g := g.b base) (Tb base) (c_rings base)) (lt_cons (m := 5) (ps := ["_law_her"]) (by decide) (by rw [hl]; exact lok_7 (g := g.b base) (Tb base) (c_rings base)) (lt_cons (m := 5) (ps := ["_law_him"]) (by decide) (by rw [hl]; exact lok_8 (g := g.b base) (Tb base) (c_rings base)) (lt_cons (m := 5) (ps := ["_law_it"]) (by decide) (by rw [hl]; exact lok_9 (g := g.b base) (Tb base) (c_passed base)) (lt_cons (m := 5) (ps := ["_law_it"]) (by decide) (by rw [hl]; exact lok_10 (g := g.b base) (Tb base) (c_passed base)) (lt_cons (m := 5) (ps := ["_law_it"]) (by decide) (by rw [hl]; exact lok_11 (g := g.b base) (Tb base) (c_evenest base)) (lt_cons (m := 5) (ps := ["_law_it"]) (by decide) (by rw [hl]; exact lok_12 (g := g.b base) (Tb base) (c_shared base)) (lt_cons (m := 5) (ps := ["_law_it"]) (by decide) (by rw [hl]; exact lok_13 (g := g.b base) (Tb base) (c_evenest base)) lt_nil)))))))))))))), m29, F29.kp, b29⟩
  have c__law_limits_right : ∀ base : Heap, Cal P w g.K mg base (CXN P w) 5 "_law_limits_right" ["_law_far"] (iSpX (g.b base) i__law_limits_right) := fun base => ⟨_, _, ok__law_limits_right (g := g.b base) (base := base) F30 (Tb base) (m_Shared base) (m_Crowd base) (c_Shared_shows base) (c_Crowd_shows base) (c_shared base) (c_loads base), m30, F30.kp, b30⟩
  have c__law_even_right : ∀ base : Heap, Cal P w g.K mg base (CXN P w) 5 "_law_even_right" [] (iSpX (g.b base) i__law_even_right) := fun base => ⟨_, _, ok__law_even_right (g := g.b base) (base := base) F31 (Tb base) (m_Even base) (c_Even_shows base) (c_evenest base) (c_loads base), m31, F31.kp, b31⟩
  have c__law_passed_right : ∀ base : Heap, Cal P w g.K mg base (CXN P w) 5 "_law_passed_right" [] (iSpX (g.b base) i__law_passed_right) := fun base => ⟨_, _, ok__law_passed_right (g := g.b base) (base := base) F32 (Tb base) (m_Chain base) (m_Side base) (c_Chain_shows base) (c_Side_shows base) (c_passed base) (c_loads base), m32, F32.kp, b32⟩
  have c__law_rings_right : ∀ base : Heap, Cal P w g.K mg base (CXN P w) 5 "_law_rings_right" [] (iSpX (g.b base) i__law_rings_right) := fun base => ⟨_, _, ok__law_rings_right (g := g.b base) (base := base) F33 (Tb base) (c_rings base), m33, F33.kp, b33⟩
  have c__law_refused_right : Cal P w g.K mg base (CXN P w) 7 "_law_refused_right" ["_law_far"] (iSpX (g.b base) i__law_refused_right) := ⟨_, _, ok__law_refused_right (g := g) (base := base) F34 (Tb base) (To base) Tb hl hk34 TB34 hm34 hu34 (c__law_word), m34, F34.kp, b34⟩
  exact ok_law (g := g.b base) (base := base) F35 (Tb base) (c__law_limits_right base) (c__law_even_right base) (c__law_passed_right base) (c__law_rings_right base) c__law_refused_right

theorem all_mk {l : PySem.W.OpenLaw} {w : World} {K : PySem.W.Frag} {h : Heap} {mg : Str → Option Value} {fa : Addr} {q : Program} {loose : List Str} {mean : PySem.ExcName → Option Value} {mb : Str → Option Value} (TT : PyProof.Rows.Top q loose mean mg mb h) (X : K.In h) (G : h.Ns mainGlobals mg) (hfa : mg "law" = some (.ref fa))
    {C_Answer C_Shared C_Crowd C_Even C_Chain C_Side C_EitherError C_BadPeople C_BadTasks C_BadLimits C_BadSharing C_BadPerson C_Unlike : Addr}
    (a_Answer : PySem.W.nsIn K mainGlobals "Answer" = some (some (.ref C_Answer))) {q_Answer : _} (cq_Answer : PySem.W.clsIn K C_Answer = some q_Answer) (pg_Answer : PySem.W.plainGet K C_Answer Str.empty = true) (hd_Answer : PySem.W.hasDictIn K C_Answer = true) (po_Answer : PySem.W.plainOver K C_Answer = true) (sa_Answer : PySem.W.findIn K (.ref C_Answer) "__setattr__" = some (some (.builtin "object.__setattr__"))) (hc_Answer : PySem.W.findIn K (.ref C_Answer) "__class__" = some (some (.builtin "object.__class__"))) (hm_Answer : PySem.W.mroIn K C_Answer (.type "object") = some true) (ty_Answer : PySem.W.typeIn K (.ref C_Answer) = some (.type "type")) (na_sharing_Answer : PySem.W.findIn K (.ref C_Answer) "sharing" = some none) (na_some_Answer : PySem.W.findIn K (.ref C_Answer) "some" = some none) (na_tasks_Answer : PySem.W.findIn K (.ref C_Answer) "tasks" = some none)
    (a_Shared : PySem.W.nsIn K mainGlobals "Shared" = some (some (.ref C_Shared))) {q_Shared : _} (cq_Shared : PySem.W.clsIn K C_Shared = some q_Shared) (pg_Shared : PySem.W.plainGet K C_Shared Str.empty = true) (hd_Shared : PySem.W.hasDictIn K C_Shared = true) (po_Shared : PySem.W.plainOver K C_Shared = true) (sa_Shared : PySem.W.findIn K (.ref C_Shared) "__setattr__" = some (some (.builtin "object.__setattr__"))) (hc_Shared : PySem.W.findIn K (.ref C_Shared) "__class__" = some (some (.builtin "object.__class__"))) (hm_Shared : PySem.W.mroIn K C_Shared (.type "object") = some true) (ty_Shared : PySem.W.typeIn K (.ref C_Shared) = some (.type "type")) (na_sharing_Shared : PySem.W.findIn K (.ref C_Shared) "sharing" = some none) (na_some_Shared : PySem.W.findIn K (.ref C_Shared) "some" = some none) (na_tasks_Shared : PySem.W.findIn K (.ref C_Shared) "tasks" = some none) (mk_Shared : PySem.W.makesIn K C_Shared = true) (kc_Shared : PySem.W.keepIn K (.ref C_Shared) = true)
    (a_Crowd : PySem.W.nsIn K mainGlobals "Crowd" = some (some (.ref C_Crowd))) {q_Crowd : _} (cq_Crowd : PySem.W.clsIn K C_Crowd = some q_Crowd) (pg_Crowd : PySem.W.plainGet K C_Crowd Str.empty = true) (hd_Crowd : PySem.W.hasDictIn K C_Crowd = true) (po_Crowd : PySem.W.plainOver K C_Crowd = true) (sa_Crowd : PySem.W.findIn K (.ref C_Crowd) "__setattr__" = some (some (.builtin "object.__setattr__"))) (hc_Crowd : PySem.W.findIn K (.ref C_Crowd) "__class__" = some (some (.builtin "object.__class__"))) (hm_Crowd : PySem.W.mroIn K C_Crowd (.type "object") = some true) (ty_Crowd : PySem.W.typeIn K (.ref C_Crowd) = some (.type "type")) (na_sharing_Crowd : PySem.W.findIn K (.ref C_Crowd) "sharing" = some none) (na_some_Crowd : PySem.W.findIn K (.ref C_Crowd) "some" = some none) (na_tasks_Crowd : PySem.W.findIn K (.ref C_Crowd) "tasks" = some none) (mk_Crowd : PySem.W.makesIn K C_Crowd = true) (kc_Crowd : PySem.W.keepIn K (.ref C_Crowd) = true)
    (a_Even : PySem.W.nsIn K mainGlobals "Even" = some (some (.ref C_Even))) {q_Even : _} (cq_Even : PySem.W.clsIn K C_Even = some q_Even) (pg_Even : PySem.W.plainGet K C_Even Str.empty = true) (hd_Even : PySem.W.hasDictIn K C_Even = true) (po_Even : PySem.W.plainOver K C_Even = true) (sa_Even : PySem.W.findIn K (.ref C_Even) "__setattr__" = some (some (.builtin "object.__setattr__"))) (hc_Even : PySem.W.findIn K (.ref C_Even) "__class__" = some (some (.builtin "object.__class__"))) (hm_Even : PySem.W.mroIn K C_Even (.type "object") = some true) (ty_Even : PySem.W.typeIn K (.ref C_Even) = some (.type "type")) (na_sharing_Even : PySem.W.findIn K (.ref C_Even) "sharing" = some none) (na_some_Even : PySem.W.findIn K (.ref C_Even) "some" = some none) (na_tasks_Even : PySem.W.findIn K (.ref C_Even) "tasks" = some none) (mk_Even : PySem.W.makesIn K C_Even = true) (kc_Even : PySem.W.keepIn K (.ref C_Even) = true)
    (a_Chain : PySem.W.nsIn K mainGlobals "Chain" = some (some (.ref C_Chain))) {q_Chain : _} (cq_Chain : PySem.W.clsIn K C_Chain = some q_Chain) (pg_Chain : PySem.W.plainGet K C_Chain Str.empty = true) (hd_Chain : PySem.W.hasDictIn K C_Chain = true) (po_Chain : PySem.W.plainOver K C_Chain = true) (sa_Chain : PySem.W.findIn K (.ref C_Chain) "__setattr__" = some (some (.builtin "object.__setattr__"))) (hc_Chain : PySem.W.findIn K (.ref C_Chain) "__class__" = some (some (.builtin "object.__class__"))) (hm_Chain : PySem.W.mroIn K C_Chain (.type "object") = some true) (ty_Chain : PySem.W.typeIn K (.ref C_Chain) = some (.type "type")) (na_sharing_Chain : PySem.W.findIn K (.ref C_Chain) "sharing" = some none) (na_some_Chain : PySem.W.findIn K (.ref C_Chain) "some" = some none) (na_tasks_Chain : PySem.W.findIn K (.ref C_Chain) "tasks" = some none) (mk_Chain : PySem.W.makesIn K C_Chain = true) (kc_Chain : PySem.W.keepIn K (.ref C_Chain) = true)
    (a_Side : PySem.W.nsIn K mainGlobals "Side" = some (some (.ref C_Side))) {q_Side : _} (cq_Side : PySem.W.clsIn K C_Side = some q_Side) (pg_Side : PySem.W.plainGet K C_Side Str.empty = true) (hd_Side : PySem.W.hasDictIn K C_Side = true) (po_Side : PySem.W.plainOver K C_Side = true) (sa_Side : PySem.W.findIn K (.ref C_Side) "__setattr__" = some (some (.builtin "object.__setattr__"))) (hc_Side : PySem.W.findIn K (.ref C_Side) "__class__" = some (some (.builtin "object.__class__"))) (hm_Side : PySem.W.mroIn K C_Side (.type "object") = some true) (ty_Side : PySem.W.typeIn K (.ref C_Side) = some (.type "type")) (na_sharing_Side : PySem.W.findIn K (.ref C_Side) "sharing" = some none) (na_some_Side : PySem.W.findIn K (.ref C_Side) "some" = some none) (na_tasks_Side : PySem.W.findIn K (.ref C_Side) "tasks" = some none) (mk_Side : PySem.W.makesIn K C_Side = true) (kc_Side : PySem.W.keepIn K (.ref C_Side) = true)
    (s_Answer_Answer : PySem.W.subIn K (.ref C_Answer) (.ref C_Answer) = some true)
    (s_Answer_Shared : PySem.W.subIn K (.ref C_Answer) (.ref C_Shared) = some false)
    (s_Answer_Crowd : PySem.W.subIn K (.ref C_Answer) (.ref C_Crowd) = some false)
    (s_Answer_Even : PySem.W.subIn K (.ref C_Answer) (.ref C_Even) = some false)
    (s_Answer_Chain : PySem.W.subIn K (.ref C_Answer) (.ref C_Chain) = some false)
    (s_Answer_Side : PySem.W.subIn K (.ref C_Answer) (.ref C_Side) = some false)
    (s_Shared_Answer : PySem.W.subIn K (.ref C_Shared) (.ref C_Answer) = some true)
    (s_Shared_Shared : PySem.W.subIn K (.ref C_Shared) (.ref C_Shared) = some true)
    (s_Shared_Crowd : PySem.W.subIn K (.ref C_Shared) (.ref C_Crowd) = some false)
    (s_Shared_Even : PySem.W.subIn K (.ref C_Shared) (.ref C_Even) = some false)
    (s_Shared_Chain : PySem.W.subIn K (.ref C_Shared) (.ref C_Chain) = some false)
    (s_Shared_Side : PySem.W.subIn K (.ref C_Shared) (.ref C_Side) = some false)
    (s_Crowd_Answer : PySem.W.subIn K (.ref C_Crowd) (.ref C_Answer) = some true)
    (s_Crowd_Shared : PySem.W.subIn K (.ref C_Crowd) (.ref C_Shared) = some false)
    (s_Crowd_Crowd : PySem.W.subIn K (.ref C_Crowd) (.ref C_Crowd) = some true)
    (s_Crowd_Even : PySem.W.subIn K (.ref C_Crowd) (.ref C_Even) = some false)
    (s_Crowd_Chain : PySem.W.subIn K (.ref C_Crowd) (.ref C_Chain) = some false)
    (s_Crowd_Side : PySem.W.subIn K (.ref C_Crowd) (.ref C_Side) = some false)
    (s_Even_Answer : PySem.W.subIn K (.ref C_Even) (.ref C_Answer) = some true)
    (s_Even_Shared : PySem.W.subIn K (.ref C_Even) (.ref C_Shared) = some false)
    (s_Even_Crowd : PySem.W.subIn K (.ref C_Even) (.ref C_Crowd) = some false)
    (s_Even_Even : PySem.W.subIn K (.ref C_Even) (.ref C_Even) = some true)
    (s_Even_Chain : PySem.W.subIn K (.ref C_Even) (.ref C_Chain) = some false)
    (s_Even_Side : PySem.W.subIn K (.ref C_Even) (.ref C_Side) = some false)
    (s_Chain_Answer : PySem.W.subIn K (.ref C_Chain) (.ref C_Answer) = some true)
    (s_Chain_Shared : PySem.W.subIn K (.ref C_Chain) (.ref C_Shared) = some false)
    (s_Chain_Crowd : PySem.W.subIn K (.ref C_Chain) (.ref C_Crowd) = some false)
    (s_Chain_Even : PySem.W.subIn K (.ref C_Chain) (.ref C_Even) = some false)
    (s_Chain_Chain : PySem.W.subIn K (.ref C_Chain) (.ref C_Chain) = some true)
    (s_Chain_Side : PySem.W.subIn K (.ref C_Chain) (.ref C_Side) = some false)
    (s_Side_Answer : PySem.W.subIn K (.ref C_Side) (.ref C_Answer) = some true)
    (s_Side_Shared : PySem.W.subIn K (.ref C_Side) (.ref C_Shared) = some false)
    (s_Side_Crowd : PySem.W.subIn K (.ref C_Side) (.ref C_Crowd) = some false)
    (s_Side_Even : PySem.W.subIn K (.ref C_Side) (.ref C_Even) = some false)
    (s_Side_Chain : PySem.W.subIn K (.ref C_Side) (.ref C_Chain) = some false)
    (s_Side_Side : PySem.W.subIn K (.ref C_Side) (.ref C_Side) = some true)
    (hn : PySem.W.specialIn K (.builtin "object.__class__") "__get__" = some (some (.builtin "getset_descriptor.__get__"))) (ht : PySem.W.takesIn K (.builtin "object.__class__") = some true)
    (a_EitherError : PySem.W.nsIn K mainGlobals "EitherError" = some (some (.ref C_EitherError))) {q_EitherError : _} (cq_EitherError : PySem.W.clsIn K C_EitherError = some q_EitherError) (hd_EitherError : PySem.W.hasDictIn K C_EitherError = true) (eb_EitherError : PySem.W.subIn K (.ref C_EitherError) (.type "BaseException") = some true) (ty_EitherError : PySem.W.typeIn K (.ref C_EitherError) = some (.type "type"))
    (a_BadPeople : PySem.W.nsIn K mainGlobals "BadPeople" = some (some (.ref C_BadPeople))) {q_BadPeople : _} (cq_BadPeople : PySem.W.clsIn K C_BadPeople = some q_BadPeople) (hd_BadPeople : PySem.W.hasDictIn K C_BadPeople = true) (eb_BadPeople : PySem.W.subIn K (.ref C_BadPeople) (.type "BaseException") = some true) (ty_BadPeople : PySem.W.typeIn K (.ref C_BadPeople) = some (.type "type")) (hg_BadPeople : PySem.W.findIn K (.ref C_BadPeople) "__getattribute__" = some (some (.builtin "BaseException.__getattribute__"))) (hk_BadPeople : PySem.W.findIn K (.ref C_BadPeople) "__getattr__" = some none) (ha_BadPeople : PySem.W.findIn K (.ref C_BadPeople) "__class__" = some (some (.builtin "object.__class__"))) (hm_BadPeople : PySem.W.mroIn K C_BadPeople (.type "object") = some true) (kp_BadPeople : PySem.W.keepIn K (.ref C_BadPeople) = true) (ev_BadPeople : PySem.W.subIn K (.ref C_BadPeople) (.type "ValueError") = some true) (xi_BadPeople : PySem.W.excIn K C_BadPeople [.type "ValueError", .type "Exception", .type "BaseException", .type "object"] "ValueError.__new__" = true)
    (a_BadTasks : PySem.W.nsIn K mainGlobals "BadTasks" = some (some (.ref C_BadTasks))) {q_BadTasks : _} (cq_BadTasks : PySem.W.clsIn K C_BadTasks = some q_BadTasks) (hd_BadTasks : PySem.W.hasDictIn K C_BadTasks = true) (eb_BadTasks : PySem.W.subIn K (.ref C_BadTasks) (.type "BaseException") = some true) (ty_BadTasks : PySem.W.typeIn K (.ref C_BadTasks) = some (.type "type")) (hg_BadTasks : PySem.W.findIn K (.ref C_BadTasks) "__getattribute__" = some (some (.builtin "BaseException.__getattribute__"))) (hk_BadTasks : PySem.W.findIn K (.ref C_BadTasks) "__getattr__" = some none) (ha_BadTasks : PySem.W.findIn K (.ref C_BadTasks) "__class__" = some (some (.builtin "object.__class__"))) (hm_BadTasks : PySem.W.mroIn K C_BadTasks (.type "object") = some true) (kp_BadTasks : PySem.W.keepIn K (.ref C_BadTasks) = true) (ev_BadTasks : PySem.W.subIn K (.ref C_BadTasks) (.type "ValueError") = some true) (xi_BadTasks : PySem.W.excIn K C_BadTasks [.type "ValueError", .type "Exception", .type "BaseException", .type "object"] "ValueError.__new__" = true)
    (a_BadLimits : PySem.W.nsIn K mainGlobals "BadLimits" = some (some (.ref C_BadLimits))) {q_BadLimits : _} (cq_BadLimits : PySem.W.clsIn K C_BadLimits = some q_BadLimits) (hd_BadLimits : PySem.W.hasDictIn K C_BadLimits = true) (eb_BadLimits : PySem.W.subIn K (.ref C_BadLimits) (.type "BaseException") = some true) (ty_BadLimits : PySem.W.typeIn K (.ref C_BadLimits) = some (.type "type")) (hg_BadLimits : PySem.W.findIn K (.ref C_BadLimits) "__getattribute__" = some (some (.builtin "BaseException.__getattribute__"))) (hk_BadLimits : PySem.W.findIn K (.ref C_BadLimits) "__getattr__" = some none) (ha_BadLimits : PySem.W.findIn K (.ref C_BadLimits) "__class__" = some (some (.builtin "object.__class__"))) (hm_BadLimits : PySem.W.mroIn K C_BadLimits (.type "object") = some true) (kp_BadLimits : PySem.W.keepIn K (.ref C_BadLimits) = true) (ev_BadLimits : PySem.W.subIn K (.ref C_BadLimits) (.type "ValueError") = some true) (xi_BadLimits : PySem.W.excIn K C_BadLimits [.type "ValueError", .type "Exception", .type "BaseException", .type "object"] "ValueError.__new__" = true)
    (a_BadSharing : PySem.W.nsIn K mainGlobals "BadSharing" = some (some (.ref C_BadSharing))) {q_BadSharing : _} (cq_BadSharing : PySem.W.clsIn K C_BadSharing = some q_BadSharing) (hd_BadSharing : PySem.W.hasDictIn K C_BadSharing = true) (eb_BadSharing : PySem.W.subIn K (.ref C_BadSharing) (.type "BaseException") = some true) (ty_BadSharing : PySem.W.typeIn K (.ref C_BadSharing) = some (.type "type")) (hg_BadSharing : PySem.W.findIn K (.ref C_BadSharing) "__getattribute__" = some (some (.builtin "BaseException.__getattribute__"))) (hk_BadSharing : PySem.W.findIn K (.ref C_BadSharing) "__getattr__" = some none) (ha_BadSharing : PySem.W.findIn K (.ref C_BadSharing) "__class__" = some (some (.builtin "object.__class__"))) (hm_BadSharing : PySem.W.mroIn K C_BadSharing (.type "object") = some true) (kp_BadSharing : PySem.W.keepIn K (.ref C_BadSharing) = true) (ev_BadSharing : PySem.W.subIn K (.ref C_BadSharing) (.type "ValueError") = some true) (xi_BadSharing : PySem.W.excIn K C_BadSharing [.type "ValueError", .type "Exception", .type "BaseException", .type "object"] "ValueError.__new__" = true)
    (a_BadPerson : PySem.W.nsIn K mainGlobals "BadPerson" = some (some (.ref C_BadPerson))) {q_BadPerson : _} (cq_BadPerson : PySem.W.clsIn K C_BadPerson = some q_BadPerson) (hd_BadPerson : PySem.W.hasDictIn K C_BadPerson = true) (eb_BadPerson : PySem.W.subIn K (.ref C_BadPerson) (.type "BaseException") = some true) (ty_BadPerson : PySem.W.typeIn K (.ref C_BadPerson) = some (.type "type")) (hg_BadPerson : PySem.W.findIn K (.ref C_BadPerson) "__getattribute__" = some (some (.builtin "BaseException.__getattribute__"))) (hk_BadPerson : PySem.W.findIn K (.ref C_BadPerson) "__getattr__" = some none) (ha_BadPerson : PySem.W.findIn K (.ref C_BadPerson) "__class__" = some (some (.builtin "object.__class__"))) (hm_BadPerson : PySem.W.mroIn K C_BadPerson (.type "object") = some true) (kp_BadPerson : PySem.W.keepIn K (.ref C_BadPerson) = true) (ev_BadPerson : PySem.W.subIn K (.ref C_BadPerson) (.type "ValueError") = some true) (xi_BadPerson : PySem.W.excIn K C_BadPerson [.type "ValueError", .type "Exception", .type "BaseException", .type "object"] "ValueError.__new__" = true)
    (a_Unlike : PySem.W.nsIn K mainGlobals "Unlike" = some (some (.ref C_Unlike))) {q_Unlike : _} (cq_Unlike : PySem.W.clsIn K C_Unlike = some q_Unlike) (hd_Unlike : PySem.W.hasDictIn K C_Unlike = true) (eb_Unlike : PySem.W.subIn K (.ref C_Unlike) (.type "BaseException") = some true) (ty_Unlike : PySem.W.typeIn K (.ref C_Unlike) = some (.type "type")) (hg_Unlike : PySem.W.findIn K (.ref C_Unlike) "__getattribute__" = some (some (.builtin "BaseException.__getattribute__"))) (hk_Unlike : PySem.W.findIn K (.ref C_Unlike) "__getattr__" = some none) (ha_Unlike : PySem.W.findIn K (.ref C_Unlike) "__class__" = some (some (.builtin "object.__class__"))) (hm_Unlike : PySem.W.mroIn K C_Unlike (.type "object") = some true) (kp_Unlike : PySem.W.keepIn K (.ref C_Unlike) = true) (ev_Unlike : PySem.W.subIn K (.ref C_Unlike) (.type "ValueError") = some true) (xi_Unlike : PySem.W.excIn K C_Unlike [.type "ValueError", .type "Exception", .type "BaseException", .type "object"] "ValueError.__new__" = true)
    (s_BadPeople_EitherError : PySem.W.subIn K (.ref C_BadPeople) (.ref C_EitherError) = some true)
    (s_BadPeople_BadPeople : PySem.W.subIn K (.ref C_BadPeople) (.ref C_BadPeople) = some true)
    (s_BadPeople_BadTasks : PySem.W.subIn K (.ref C_BadPeople) (.ref C_BadTasks) = some false)
    (s_BadPeople_BadLimits : PySem.W.subIn K (.ref C_BadPeople) (.ref C_BadLimits) = some false)
    (s_BadPeople_BadSharing : PySem.W.subIn K (.ref C_BadPeople) (.ref C_BadSharing) = some false)
    (s_BadPeople_BadPerson : PySem.W.subIn K (.ref C_BadPeople) (.ref C_BadPerson) = some false)
    (s_BadPeople_Unlike : PySem.W.subIn K (.ref C_BadPeople) (.ref C_Unlike) = some false)
    (s_BadTasks_EitherError : PySem.W.subIn K (.ref C_BadTasks) (.ref C_EitherError) = some true)
    (s_BadTasks_BadPeople : PySem.W.subIn K (.ref C_BadTasks) (.ref C_BadPeople) = some false)
    (s_BadTasks_BadTasks : PySem.W.subIn K (.ref C_BadTasks) (.ref C_BadTasks) = some true)
    (s_BadTasks_BadLimits : PySem.W.subIn K (.ref C_BadTasks) (.ref C_BadLimits) = some false)
    (s_BadTasks_BadSharing : PySem.W.subIn K (.ref C_BadTasks) (.ref C_BadSharing) = some false)
    (s_BadTasks_BadPerson : PySem.W.subIn K (.ref C_BadTasks) (.ref C_BadPerson) = some false)
    (s_BadTasks_Unlike : PySem.W.subIn K (.ref C_BadTasks) (.ref C_Unlike) = some false)
    (s_BadLimits_EitherError : PySem.W.subIn K (.ref C_BadLimits) (.ref C_EitherError) = some true)
    (s_BadLimits_BadPeople : PySem.W.subIn K (.ref C_BadLimits) (.ref C_BadPeople) = some false)
    (s_BadLimits_BadTasks : PySem.W.subIn K (.ref C_BadLimits) (.ref C_BadTasks) = some false)
    (s_BadLimits_BadLimits : PySem.W.subIn K (.ref C_BadLimits) (.ref C_BadLimits) = some true)
    (s_BadLimits_BadSharing : PySem.W.subIn K (.ref C_BadLimits) (.ref C_BadSharing) = some false)
    (s_BadLimits_BadPerson : PySem.W.subIn K (.ref C_BadLimits) (.ref C_BadPerson) = some false)
    (s_BadLimits_Unlike : PySem.W.subIn K (.ref C_BadLimits) (.ref C_Unlike) = some false)
    (s_BadSharing_EitherError : PySem.W.subIn K (.ref C_BadSharing) (.ref C_EitherError) = some true)
    (s_BadSharing_BadPeople : PySem.W.subIn K (.ref C_BadSharing) (.ref C_BadPeople) = some false)
    (s_BadSharing_BadTasks : PySem.W.subIn K (.ref C_BadSharing) (.ref C_BadTasks) = some false)
    (s_BadSharing_BadLimits : PySem.W.subIn K (.ref C_BadSharing) (.ref C_BadLimits) = some false)
    (s_BadSharing_BadSharing : PySem.W.subIn K (.ref C_BadSharing) (.ref C_BadSharing) = some true)
    (s_BadSharing_BadPerson : PySem.W.subIn K (.ref C_BadSharing) (.ref C_BadPerson) = some false)
    (s_BadSharing_Unlike : PySem.W.subIn K (.ref C_BadSharing) (.ref C_Unlike) = some false)
    (s_BadPerson_EitherError : PySem.W.subIn K (.ref C_BadPerson) (.ref C_EitherError) = some true)
    (s_BadPerson_BadPeople : PySem.W.subIn K (.ref C_BadPerson) (.ref C_BadPeople) = some false)
    (s_BadPerson_BadTasks : PySem.W.subIn K (.ref C_BadPerson) (.ref C_BadTasks) = some false)
    (s_BadPerson_BadLimits : PySem.W.subIn K (.ref C_BadPerson) (.ref C_BadLimits) = some false)
    (s_BadPerson_BadSharing : PySem.W.subIn K (.ref C_BadPerson) (.ref C_BadSharing) = some false)
    (s_BadPerson_BadPerson : PySem.W.subIn K (.ref C_BadPerson) (.ref C_BadPerson) = some true)
    (s_BadPerson_Unlike : PySem.W.subIn K (.ref C_BadPerson) (.ref C_Unlike) = some false)
    (s_Unlike_EitherError : PySem.W.subIn K (.ref C_Unlike) (.ref C_EitherError) = some true)
    (s_Unlike_BadPeople : PySem.W.subIn K (.ref C_Unlike) (.ref C_BadPeople) = some false)
    (s_Unlike_BadTasks : PySem.W.subIn K (.ref C_Unlike) (.ref C_BadTasks) = some false)
    (s_Unlike_BadLimits : PySem.W.subIn K (.ref C_Unlike) (.ref C_BadLimits) = some false)
    (s_Unlike_BadSharing : PySem.W.subIn K (.ref C_Unlike) (.ref C_BadSharing) = some false)
    (s_Unlike_BadPerson : PySem.W.subIn K (.ref C_Unlike) (.ref C_BadPerson) = some false)
    (s_Unlike_Unlike : PySem.W.subIn K (.ref C_Unlike) (.ref C_Unlike) = some true)
    {f0 : Addr} {od0 an0 : Option Addr} {sl0 : Array (Option Value)} {oc0 kV0 dc0 pm0 cd0 ct0 : Value}
    (a0 : PySem.W.nsIn K mainGlobals "is_number" = some (some (.ref f0))) (l0 : K.lookup f0 = some ⟨oc0, od0, .func (PySem.W.fnOf "is_number" "is_number" (defArgs s_is_number) (defBody s_is_number) (defScope s_is_number) .none kV0 dc0 pm0 an0 cd0 ct0), sl0⟩) (c0 : PySem.W.codeIn K cd0 "is_number" = true) (k0 : PySem.W.keepIn K (.ref f0) = true)
    {f1 : Addr} {od1 an1 : Option Addr} {sl1 : Array (Option Value)} {oc1 kV1 dc1 pm1 cd1 ct1 : Value}
    (a1 : PySem.W.nsIn K mainGlobals "is_task" = some (some (.ref f1))) (l1 : K.lookup f1 = some ⟨oc1, od1, .func (PySem.W.fnOf "is_task" "is_task" (defArgs s_is_task) (defBody s_is_task) (defScope s_is_task) .none kV1 dc1 pm1 an1 cd1 ct1), sl1⟩) (c1 : PySem.W.codeIn K cd1 "is_task" = true) (k1 : PySem.W.keepIn K (.ref f1) = true)
    {f2 : Addr} {od2 an2 : Option Addr} {sl2 : Array (Option Value)} {oc2 kV2 dc2 pm2 cd2 ct2 : Value}
    (a2 : PySem.W.nsIn K mainGlobals "check_tasks" = some (some (.ref f2))) (l2 : K.lookup f2 = some ⟨oc2, od2, .func (PySem.W.fnOf "check_tasks" "check_tasks" (defArgs s_check_tasks) (defBody s_check_tasks) (defScope s_check_tasks) .none kV2 dc2 pm2 an2 cd2 ct2), sl2⟩) (c2 : PySem.W.codeIn K cd2 "check_tasks" = true) (k2 : PySem.W.keepIn K (.ref f2) = true)
    {f3 : Addr} {od3 an3 : Option Addr} {sl3 : Array (Option Value)} {oc3 kV3 dc3 pm3 cd3 ct3 : Value}
    (a3 : PySem.W.nsIn K mainGlobals "check_limits" = some (some (.ref f3))) (l3 : K.lookup f3 = some ⟨oc3, od3, .func (PySem.W.fnOf "check_limits" "check_limits" (defArgs s_check_limits) (defBody s_check_limits) (defScope s_check_limits) .none kV3 dc3 pm3 an3 cd3 ct3), sl3⟩) (c3 : PySem.W.codeIn K cd3 "check_limits" = true) (k3 : PySem.W.keepIn K (.ref f3) = true)
    {f4 : Addr} {od4 an4 : Option Addr} {sl4 : Array (Option Value)} {oc4 kV4 dc4 pm4 cd4 ct4 : Value}
    (a4 : PySem.W.nsIn K mainGlobals "is_sharing" = some (some (.ref f4))) (l4 : K.lookup f4 = some ⟨oc4, od4, .func (PySem.W.fnOf "is_sharing" "is_sharing" (defArgs s_is_sharing) (defBody s_is_sharing) (defScope s_is_sharing) .none kV4 dc4 pm4 an4 cd4 ct4), sl4⟩) (c4 : PySem.W.codeIn K cd4 "is_sharing" = true) (k4 : PySem.W.keepIn K (.ref f4) = true)
    {f5 : Addr} {od5 an5 : Option Addr} {sl5 : Array (Option Value)} {oc5 kV5 dc5 pm5 cd5 ct5 : Value}
    (a5 : PySem.W.nsIn K mainGlobals "check_sharing" = some (some (.ref f5))) (l5 : K.lookup f5 = some ⟨oc5, od5, .func (PySem.W.fnOf "check_sharing" "check_sharing" (defArgs s_check_sharing) (defBody s_check_sharing) (defScope s_check_sharing) .none kV5 dc5 pm5 an5 cd5 ct5), sl5⟩) (c5 : PySem.W.codeIn K cd5 "check_sharing" = true) (k5 : PySem.W.keepIn K (.ref f5) = true)
    {f6 : Addr} {od6 an6 : Option Addr} {sl6 : Array (Option Value)} {oc6 kV6 dc6 pm6 cd6 ct6 : Value}
    (a6 : PySem.W.nsIn K mainGlobals "loads_of" = some (some (.ref f6))) (l6 : K.lookup f6 = some ⟨oc6, od6, .func (PySem.W.fnOf "loads_of" "loads_of" (defArgs s_loads_of) (defBody s_loads_of) (defScope s_loads_of) .none kV6 dc6 pm6 an6 cd6 ct6), sl6⟩) (c6 : PySem.W.codeIn K cd6 "loads_of" = true) (k6 : PySem.W.keepIn K (.ref f6) = true)
    {f7 : Addr} {od7 an7 : Option Addr} {sl7 : Array (Option Value)} {oc7 kV7 dc7 pm7 cd7 ct7 : Value}
    (a7 : PySem.W.nsIn K mainGlobals "loads" = some (some (.ref f7))) (l7 : K.lookup f7 = some ⟨oc7, od7, .func (PySem.W.fnOf "loads" "loads" (defArgs s_loads) (defBody s_loads) (defScope s_loads) .none kV7 dc7 pm7 an7 cd7 ct7), sl7⟩) (c7 : PySem.W.codeIn K cd7 "loads" = true) (k7 : PySem.W.keepIn K (.ref f7) = true)
    {f8 : Addr} {od8 an8 : Option Addr} {sl8 : Array (Option Value)} {oc8 kV8 dc8 pm8 cd8 ct8 : Value}
    (a8 : PySem.W.nsIn K mainGlobals "second_of" = some (some (.ref f8))) (l8 : K.lookup f8 = some ⟨oc8, od8, .func (PySem.W.fnOf "second_of" "second_of" (defArgs s_second_of) (defBody s_second_of) (defScope s_second_of) .none kV8 dc8 pm8 an8 cd8 ct8), sl8⟩) (c8 : PySem.W.codeIn K cd8 "second_of" = true) (k8 : PySem.W.keepIn K (.ref f8) = true)
    {f9 : Addr} {od9 an9 : Option Addr} {sl9 : Array (Option Value)} {oc9 kV9 dc9 pm9 cd9 ct9 : Value}
    (a9 : PySem.W.nsIn K mainGlobals "among" = some (some (.ref f9))) (l9 : K.lookup f9 = some ⟨oc9, od9, .func (PySem.W.fnOf "among" "among" (defArgs s_among) (defBody s_among) (defScope s_among) .none kV9 dc9 pm9 an9 cd9 ct9), sl9⟩) (c9 : PySem.W.codeIn K cd9 "among" = true) (k9 : PySem.W.keepIn K (.ref f9) = true)
    {f10 : Addr} {od10 an10 : Option Addr} {sl10 : Array (Option Value)} {oc10 kV10 dc10 pm10 cd10 ct10 : Value}
    (a10 : PySem.W.nsIn K mainGlobals "are_people" = some (some (.ref f10))) (l10 : K.lookup f10 = some ⟨oc10, od10, .func (PySem.W.fnOf "are_people" "are_people" (defArgs s_are_people) (defBody s_are_people) (defScope s_are_people) .none kV10 dc10 pm10 an10 cd10 ct10), sl10⟩) (c10 : PySem.W.codeIn K cd10 "are_people" = true) (k10 : PySem.W.keepIn K (.ref f10) = true)
    {f11 : Addr} {od11 an11 : Option Addr} {sl11 : Array (Option Value)} {oc11 kV11 dc11 pm11 cd11 ct11 : Value}
    (a11 : PySem.W.findIn K (.ref C_Shared) "__init__" = some (some (.ref f11))) (i11 : PySem.W.isFn K (.ref f11) = true) (l11 : K.lookup f11 = some ⟨oc11, od11, .func (PySem.W.fnOf "__init__" "Shared.__init__" (defArgs s_Shared_init) (defBody s_Shared_init) (defScope s_Shared_init) .none kV11 dc11 pm11 an11 cd11 ct11), sl11⟩) (c11 : PySem.W.codeIn K cd11 "Shared.__init__" = true) (k11 : PySem.W.keepIn K (.ref f11) = true)
    {f12 : Addr} {od12 an12 : Option Addr} {sl12 : Array (Option Value)} {oc12 kV12 dc12 pm12 cd12 ct12 : Value}
    (a12 : PySem.W.findIn K (.ref C_Shared) "shows" = some (some (.ref f12))) (i12 : PySem.W.isFn K (.ref f12) = true) (l12 : K.lookup f12 = some ⟨oc12, od12, .func (PySem.W.fnOf "shows" "Shared.shows" (defArgs s_Shared_shows) (defBody s_Shared_shows) (defScope s_Shared_shows) .none kV12 dc12 pm12 an12 cd12 ct12), sl12⟩) (c12 : PySem.W.codeIn K cd12 "Shared.shows" = true) (k12 : PySem.W.keepIn K (.ref f12) = true)
    {f13 : Addr} {od13 an13 : Option Addr} {sl13 : Array (Option Value)} {oc13 kV13 dc13 pm13 cd13 ct13 : Value}
    (a13 : PySem.W.findIn K (.ref C_Crowd) "__init__" = some (some (.ref f13))) (i13 : PySem.W.isFn K (.ref f13) = true) (l13 : K.lookup f13 = some ⟨oc13, od13, .func (PySem.W.fnOf "__init__" "Crowd.__init__" (defArgs s_Crowd_init) (defBody s_Crowd_init) (defScope s_Crowd_init) .none kV13 dc13 pm13 an13 cd13 ct13), sl13⟩) (c13 : PySem.W.codeIn K cd13 "Crowd.__init__" = true) (k13 : PySem.W.keepIn K (.ref f13) = true)
    {f14 : Addr} {od14 an14 : Option Addr} {sl14 : Array (Option Value)} {oc14 kV14 dc14 pm14 cd14 ct14 : Value}
    (a14 : PySem.W.findIn K (.ref C_Crowd) "shows" = some (some (.ref f14))) (i14 : PySem.W.isFn K (.ref f14) = true) (l14 : K.lookup f14 = some ⟨oc14, od14, .func (PySem.W.fnOf "shows" "Crowd.shows" (defArgs s_Crowd_shows) (defBody s_Crowd_shows) (defScope s_Crowd_shows) .none kV14 dc14 pm14 an14 cd14 ct14), sl14⟩) (c14 : PySem.W.codeIn K cd14 "Crowd.shows" = true) (k14 : PySem.W.keepIn K (.ref f14) = true)
    {f15 : Addr} {od15 an15 : Option Addr} {sl15 : Array (Option Value)} {oc15 kV15 dc15 pm15 cd15 ct15 : Value}
    (a15 : PySem.W.findIn K (.ref C_Even) "__init__" = some (some (.ref f15))) (i15 : PySem.W.isFn K (.ref f15) = true) (l15 : K.lookup f15 = some ⟨oc15, od15, .func (PySem.W.fnOf "__init__" "Even.__init__" (defArgs s_Even_init) (defBody s_Even_init) (defScope s_Even_init) .none kV15 dc15 pm15 an15 cd15 ct15), sl15⟩) (c15 : PySem.W.codeIn K cd15 "Even.__init__" = true) (k15 : PySem.W.keepIn K (.ref f15) = true)
    {f16 : Addr} {od16 an16 : Option Addr} {sl16 : Array (Option Value)} {oc16 kV16 dc16 pm16 cd16 ct16 : Value}
    (a16 : PySem.W.findIn K (.ref C_Even) "shows" = some (some (.ref f16))) (i16 : PySem.W.isFn K (.ref f16) = true) (l16 : K.lookup f16 = some ⟨oc16, od16, .func (PySem.W.fnOf "shows" "Even.shows" (defArgs s_Even_shows) (defBody s_Even_shows) (defScope s_Even_shows) .none kV16 dc16 pm16 an16 cd16 ct16), sl16⟩) (c16 : PySem.W.codeIn K cd16 "Even.shows" = true) (k16 : PySem.W.keepIn K (.ref f16) = true)
    {f17 : Addr} {od17 an17 : Option Addr} {sl17 : Array (Option Value)} {oc17 kV17 dc17 pm17 cd17 ct17 : Value}
    (a17 : PySem.W.findIn K (.ref C_Chain) "__init__" = some (some (.ref f17))) (i17 : PySem.W.isFn K (.ref f17) = true) (l17 : K.lookup f17 = some ⟨oc17, od17, .func (PySem.W.fnOf "__init__" "Chain.__init__" (defArgs s_Chain_init) (defBody s_Chain_init) (defScope s_Chain_init) .none kV17 dc17 pm17 an17 cd17 ct17), sl17⟩) (c17 : PySem.W.codeIn K cd17 "Chain.__init__" = true) (k17 : PySem.W.keepIn K (.ref f17) = true)
    {f18 : Addr} {od18 an18 : Option Addr} {sl18 : Array (Option Value)} {oc18 kV18 dc18 pm18 cd18 ct18 : Value}
    (a18 : PySem.W.findIn K (.ref C_Chain) "shows" = some (some (.ref f18))) (i18 : PySem.W.isFn K (.ref f18) = true) (l18 : K.lookup f18 = some ⟨oc18, od18, .func (PySem.W.fnOf "shows" "Chain.shows" (defArgs s_Chain_shows) (defBody s_Chain_shows) (defScope s_Chain_shows) .none kV18 dc18 pm18 an18 cd18 ct18), sl18⟩) (c18 : PySem.W.codeIn K cd18 "Chain.shows" = true) (k18 : PySem.W.keepIn K (.ref f18) = true)
    {f19 : Addr} {od19 an19 : Option Addr} {sl19 : Array (Option Value)} {oc19 kV19 dc19 pm19 cd19 ct19 : Value}
    (a19 : PySem.W.findIn K (.ref C_Side) "__init__" = some (some (.ref f19))) (i19 : PySem.W.isFn K (.ref f19) = true) (l19 : K.lookup f19 = some ⟨oc19, od19, .func (PySem.W.fnOf "__init__" "Side.__init__" (defArgs s_Side_init) (defBody s_Side_init) (defScope s_Side_init) .none kV19 dc19 pm19 an19 cd19 ct19), sl19⟩) (c19 : PySem.W.codeIn K cd19 "Side.__init__" = true) (k19 : PySem.W.keepIn K (.ref f19) = true)
    {f20 : Addr} {od20 an20 : Option Addr} {sl20 : Array (Option Value)} {oc20 kV20 dc20 pm20 cd20 ct20 : Value}
    (a20 : PySem.W.findIn K (.ref C_Side) "shows" = some (some (.ref f20))) (i20 : PySem.W.isFn K (.ref f20) = true) (l20 : K.lookup f20 = some ⟨oc20, od20, .func (PySem.W.fnOf "shows" "Side.shows" (defArgs s_Side_shows) (defBody s_Side_shows) (defScope s_Side_shows) .none kV20 dc20 pm20 an20 cd20 ct20), sl20⟩) (c20 : PySem.W.codeIn K cd20 "Side.shows" = true) (k20 : PySem.W.keepIn K (.ref f20) = true)
    {f21 : Addr} {od21 an21 : Option Addr} {sl21 : Array (Option Value)} {oc21 kV21 dc21 pm21 cd21 ct21 : Value}
    (a21 : PySem.W.nsIn K mainGlobals "came_from" = some (some (.ref f21))) (l21 : K.lookup f21 = some ⟨oc21, od21, .func (PySem.W.fnOf "came_from" "came_from" (defArgs s_came_from) (defBody s_came_from) (defScope s_came_from) .none kV21 dc21 pm21 an21 cd21 ct21), sl21⟩) (c21 : PySem.W.codeIn K cd21 "came_from" = true) (k21 : PySem.W.keepIn K (.ref f21) = true)
    {f22 : Addr} {od22 an22 : Option Addr} {sl22 : Array (Option Value)} {oc22 kV22 dc22 pm22 cd22 ct22 : Value}
    (a22 : PySem.W.nsIn K mainGlobals "chain_to" = some (some (.ref f22))) (l22 : K.lookup f22 = some ⟨oc22, od22, .func (PySem.W.fnOf "chain_to" "chain_to" (defArgs s_chain_to) (defBody s_chain_to) (defScope s_chain_to) .none kV22 dc22 pm22 an22 cd22 ct22), sl22⟩) (c22 : PySem.W.codeIn K cd22 "chain_to" = true) (k22 : PySem.W.keepIn K (.ref f22) = true)
    {f23 : Addr} {od23 an23 : Option Addr} {sl23 : Array (Option Value)} {oc23 kV23 dc23 pm23 cd23 ct23 : Value}
    (a23 : PySem.W.nsIn K mainGlobals "share" = some (some (.ref f23))) (l23 : K.lookup f23 = some ⟨oc23, od23, .func (PySem.W.fnOf "share" "share" (defArgs s_share) (defBody s_share) (defScope s_share) .none kV23 dc23 pm23 an23 cd23 ct23), sl23⟩) (c23 : PySem.W.codeIn K cd23 "share" = true) (k23 : PySem.W.keepIn K (.ref f23) = true)
    {f24 : Addr} {od24 an24 : Option Addr} {sl24 : Array (Option Value)} {oc24 kV24 dc24 pm24 cd24 ct24 : Value}
    (a24 : PySem.W.nsIn K mainGlobals "shared" = some (some (.ref f24))) (l24 : K.lookup f24 = some ⟨oc24, od24, .func (PySem.W.fnOf "shared" "shared" (defArgs s_shared) (defBody s_shared) (defScope s_shared) .none kV24 dc24 pm24 an24 cd24 ct24), sl24⟩) (c24 : PySem.W.codeIn K cd24 "shared" = true) (k24 : PySem.W.keepIn K (.ref f24) = true)
    {f25 : Addr} {od25 an25 : Option Addr} {sl25 : Array (Option Value)} {oc25 kV25 dc25 pm25 cd25 ct25 : Value}
    (a25 : PySem.W.nsIn K mainGlobals "evenest" = some (some (.ref f25))) (l25 : K.lookup f25 = some ⟨oc25, od25, .func (PySem.W.fnOf "evenest" "evenest" (defArgs s_evenest) (defBody s_evenest) (defScope s_evenest) .none kV25 dc25 pm25 an25 cd25 ct25), sl25⟩) (c25 : PySem.W.codeIn K cd25 "evenest" = true) (k25 : PySem.W.keepIn K (.ref f25) = true)
    {f26 : Addr} {od26 an26 : Option Addr} {sl26 : Array (Option Value)} {oc26 kV26 dc26 pm26 cd26 ct26 : Value}
    (a26 : PySem.W.nsIn K mainGlobals "passed" = some (some (.ref f26))) (l26 : K.lookup f26 = some ⟨oc26, od26, .func (PySem.W.fnOf "passed" "passed" (defArgs s_passed) (defBody s_passed) (defScope s_passed) .none kV26 dc26 pm26 an26 cd26 ct26), sl26⟩) (c26 : PySem.W.codeIn K cd26 "passed" = true) (k26 : PySem.W.keepIn K (.ref f26) = true)
    {f27 : Addr} {od27 an27 : Option Addr} {sl27 : Array (Option Value)} {oc27 kV27 dc27 pm27 cd27 ct27 : Value}
    (a27 : PySem.W.nsIn K mainGlobals "rings_from" = some (some (.ref f27))) (l27 : K.lookup f27 = some ⟨oc27, od27, .func (PySem.W.fnOf "rings_from" "rings_from" (defArgs s_rings_from) (defBody s_rings_from) (defScope s_rings_from) .none kV27 dc27 pm27 an27 cd27 ct27), sl27⟩) (c27 : PySem.W.codeIn K cd27 "rings_from" = true) (k27 : PySem.W.keepIn K (.ref f27) = true)
    {f28 : Addr} {od28 an28 : Option Addr} {sl28 : Array (Option Value)} {oc28 kV28 dc28 pm28 cd28 ct28 : Value}
    (a28 : PySem.W.nsIn K mainGlobals "rings" = some (some (.ref f28))) (l28 : K.lookup f28 = some ⟨oc28, od28, .func (PySem.W.fnOf "rings" "rings" (defArgs s_rings) (defBody s_rings) (defScope s_rings) .none kV28 dc28 pm28 an28 cd28 ct28), sl28⟩) (c28 : PySem.W.codeIn K cd28 "rings" = true) (k28 : PySem.W.keepIn K (.ref f28) = true)
    {f29 : Addr} {od29 an29 : Option Addr} {sl29 : Array (Option Value)} {oc29 kV29 dc29 pm29 cd29 ct29 : Value}
    (a29 : PySem.W.nsIn K mainGlobals "_law_word" = some (some (.ref f29))) (l29 : K.lookup f29 = some ⟨oc29, od29, .func (PySem.W.fnOf "_law_word" "_law_word" (defArgs s__law_word) (defBody s__law_word) (defScope s__law_word) .none kV29 dc29 pm29 an29 cd29 ct29), sl29⟩) (c29 : PySem.W.codeIn K cd29 "_law_word" = true) (k29 : PySem.W.keepIn K (.ref f29) = true)
    {f30 : Addr} {od30 an30 : Option Addr} {sl30 : Array (Option Value)} {oc30 kV30 dc30 pm30 cd30 ct30 : Value}
    (a30 : PySem.W.nsIn K mainGlobals "_law_limits_right" = some (some (.ref f30))) (l30 : K.lookup f30 = some ⟨oc30, od30, .func (PySem.W.fnOf "_law_limits_right" "_law_limits_right" (defArgs s__law_limits_right) (defBody s__law_limits_right) (defScope s__law_limits_right) .none kV30 dc30 pm30 an30 cd30 ct30), sl30⟩) (c30 : PySem.W.codeIn K cd30 "_law_limits_right" = true) (k30 : PySem.W.keepIn K (.ref f30) = true)
    {f31 : Addr} {od31 an31 : Option Addr} {sl31 : Array (Option Value)} {oc31 kV31 dc31 pm31 cd31 ct31 : Value}
    (a31 : PySem.W.nsIn K mainGlobals "_law_even_right" = some (some (.ref f31))) (l31 : K.lookup f31 = some ⟨oc31, od31, .func (PySem.W.fnOf "_law_even_right" "_law_even_right" (defArgs s__law_even_right) (defBody s__law_even_right) (defScope s__law_even_right) .none kV31 dc31 pm31 an31 cd31 ct31), sl31⟩) (c31 : PySem.W.codeIn K cd31 "_law_even_right" = true) (k31 : PySem.W.keepIn K (.ref f31) = true)
    {f32 : Addr} {od32 an32 : Option Addr} {sl32 : Array (Option Value)} {oc32 kV32 dc32 pm32 cd32 ct32 : Value}
    (a32 : PySem.W.nsIn K mainGlobals "_law_passed_right" = some (some (.ref f32))) (l32 : K.lookup f32 = some ⟨oc32, od32, .func (PySem.W.fnOf "_law_passed_right" "_law_passed_right" (defArgs s__law_passed_right) (defBody s__law_passed_right) (defScope s__law_passed_right) .none kV32 dc32 pm32 an32 cd32 ct32), sl32⟩) (c32 : PySem.W.codeIn K cd32 "_law_passed_right" = true) (k32 : PySem.W.keepIn K (.ref f32) = true)
    {f33 : Addr} {od33 an33 : Option Addr} {sl33 : Array (Option Value)} {oc33 kV33 dc33 pm33 cd33 ct33 : Value}
    (a33 : PySem.W.nsIn K mainGlobals "_law_rings_right" = some (some (.ref f33))) (l33 : K.lookup f33 = some ⟨oc33, od33, .func (PySem.W.fnOf "_law_rings_right" "_law_rings_right" (defArgs s__law_rings_right) (defBody s__law_rings_right) (defScope s__law_rings_right) .none kV33 dc33 pm33 an33 cd33 ct33), sl33⟩) (c33 : PySem.W.codeIn K cd33 "_law_rings_right" = true) (k33 : PySem.W.keepIn K (.ref f33) = true)
    {f34 cA34 PA34 : Addr} {vK34 : Array Value} {oK34 : _} {dK34 : _} {sK34 : _} {rK34 : _} {od34 an34 : Option Addr} {sl34 : Array (Option Value)} {oc34 kV34 dc34 pm34 ct34 : Value}
    (a34 : PySem.W.nsIn K mainGlobals "_law_refused_right" = some (some (.ref f34))) (l34 : K.lookup f34 = some ⟨oc34, od34, .func (PySem.W.fnOf "_law_refused_right" "_law_refused_right" (defArgs s__law_refused_right) (defBody s__law_refused_right) (defScope s__law_refused_right) .none kV34 dc34 pm34 an34 (.ref cA34) ct34), sl34⟩) (c34 : PySem.W.codeIn K (.ref cA34) "_law_refused_right" = true) (k34 : PySem.W.keepIn K (.ref f34) = true) (lc34 : K.lookup cA34 = some ⟨oK34, dK34, .fields vK34, sK34⟩) (hv34 : vK34[11]? = some (.ref PA34)) (ht34 : PySem.W.tabIn K "_law_refused_right" = some (cA34, PA34)) (hn34 : K.lookup PA34 = none) (hr34 : (PyProof.Rows.recsOf q).find? (fun e => e.name == ("_law_refused_right" : PySem.Str)) = some rK34)
    {f35 : Addr} {od35 an35 : Option Addr} {sl35 : Array (Option Value)} {oc35 kV35 dc35 pm35 cd35 ct35 : Value}
    (a35 : PySem.W.nsIn K mainGlobals "law" = some (some (.ref f35))) (l35 : K.lookup f35 = some ⟨oc35, od35, .func (PySem.W.fnOf "law" "law" (defArgs s_law) (defBody s_law) (defScope s_law) .none kV35 dc35 pm35 an35 cd35 ct35), sl35⟩) (c35 : PySem.W.codeIn K cd35 "law" = true) (k35 : PySem.W.keepIn K (.ref f35) = true)
 (z_len : PySem.W.nsIn K mainGlobals "len" = some none) (z_isinstance : PySem.W.nsIn K mainGlobals "isinstance" = some none) (z_int : PySem.W.nsIn K mainGlobals "int" = some none) (z_bool : PySem.W.nsIn K mainGlobals "bool" = some none) (z_list : PySem.W.nsIn K mainGlobals "list" = some none) (z_tuple : PySem.W.nsIn K mainGlobals "tuple" = some none) (z_all : PySem.W.nsIn K mainGlobals "all" = some none) (z_any : PySem.W.nsIn K mainGlobals "any" = some none) (z_sum : PySem.W.nsIn K mainGlobals "sum" = some none) (z_max : PySem.W.nsIn K mainGlobals "max" = some none) (z_min : PySem.W.nsIn K mainGlobals "min" = some none) (z_sorted : PySem.W.nsIn K mainGlobals "sorted" = some none) (z_set : PySem.W.nsIn K mainGlobals "set" = some none) (z_range : PySem.W.nsIn K mainGlobals "range" = some none) (z_enumerate : PySem.W.nsIn K mainGlobals "enumerate" = some none) (z_zip : PySem.W.nsIn K mainGlobals "zip" = some none) (z_abs : PySem.W.nsIn K mainGlobals "abs" = some none) (z_str : PySem.W.nsIn K mainGlobals "str" = some none) (z_ValueError : PySem.W.nsIn K mainGlobals "ValueError" = some none)
    {tM : _} (zM : PySem.W.nsIn K mainGlobals "MOST" = some (some (.int 60 tM))) :
    ∃ (fd : FuncData) (cs : List (Str × Addr × Addr)), (∀ p ∈ cs, MkT K h p.1 p.2.1 p.2.2) ∧ (∀ (s : PySem.Shared) (v : Value), BindsTo s fd ⟨[v], []⟩ [("_law_script", v)]) ∧ ∀ base : Heap, K.In base → base.Ns mainGlobals mg → (∀ p ∈ cs, LamX.TabB base mg p.2.1 p.2.2) → FnOk l.prog w K mg base (CXN l.prog w) 8 fa fd ["_law_script"] (lawSpZ i_law K (cs.map fun p => (p.2.2, p.1)) lamT) := by
  have e := hfa.symm.trans (PySem.W.mg_of X G a35)
  cases e
  have B : Bt mg := ⟨PySem.W.mg_none_of X G z_len, PySem.W.mg_none_of X G z_isinstance, PySem.W.mg_none_of X G z_int, PySem.W.mg_none_of X G z_bool, PySem.W.mg_none_of X G z_list, PySem.W.mg_none_of X G z_tuple, PySem.W.mg_none_of X G z_all, PySem.W.mg_none_of X G z_any, PySem.W.mg_none_of X G z_sum, PySem.W.mg_none_of X G z_max, PySem.W.mg_none_of X G z_min, PySem.W.mg_none_of X G z_sorted, PySem.W.mg_none_of X G z_set, PySem.W.mg_none_of X G z_range, PySem.W.mg_none_of X G z_enumerate, PySem.W.mg_none_of X G z_zip, PySem.W.mg_none_of X G z_abs, PySem.W.mg_none_of X G z_str⟩
  have e_Answer := gam_of a_Answer
  subst e_Answer
  have e_Shared := gam_of a_Shared
  subst e_Shared
  have e_Crowd := gam_of a_Crowd
  subst e_Crowd
  have e_Even := gam_of a_Even
  subst e_Even
  have e_Chain := gam_of a_Chain
  subst e_Chain
  have e_Side := gam_of a_Side
  subst e_Side
  have e_EitherError := gam_of a_EitherError
  subst e_EitherError
  have e_BadPeople := gam_of a_BadPeople
  subst e_BadPeople
  have e_BadTasks := gam_of a_BadTasks
  subst e_BadTasks
  have e_BadLimits := gam_of a_BadLimits
  subst e_BadLimits
  have e_BadSharing := gam_of a_BadSharing
  subst e_BadSharing
  have e_BadPerson := gam_of a_BadPerson
  subst e_BadPerson
  have e_Unlike := gam_of a_Unlike
  subst e_Unlike
  have CL : ∀ (aA : Addr) (nS : List Int) (hS : Prop) (tT : List (Addr × Str)) (lT : Nat → LI) (ow : _) (cb : _), Cl ⟨gam K, K, aA, nS, hS, none, tT, lT, ow, cb⟩ := fun aA nS hS tT lT ow cb => ⟨cls_all ⟨pg_Answer, hd_Answer, po_Answer, sa_Answer⟩ ⟨pg_Shared, hd_Shared, po_Shared, sa_Shared⟩ ⟨pg_Crowd, hd_Crowd, po_Crowd, sa_Crowd⟩ ⟨pg_Even, hd_Even, po_Even, sa_Even⟩ ⟨pg_Chain, hd_Chain, po_Chain, sa_Chain⟩ ⟨pg_Side, hd_Side, po_Side, sa_Side⟩,
    cls_all (cls_all (sub_of (kit_sub cq_Answer ty_Answer s_Answer_Answer s_Answer_Answer) (by decide +kernel)) (sub_of (kit_sub cq_Shared ty_Shared s_Shared_Shared s_Answer_Shared) (by decide +kernel)) (sub_of (kit_sub cq_Crowd ty_Crowd s_Crowd_Crowd s_Answer_Crowd) (by decide +kernel)) (sub_of (kit_sub cq_Even ty_Even s_Even_Even s_Answer_Even) (by decide +kernel)) (sub_of (kit_sub cq_Chain ty_Chain s_Chain_Chain s_Answer_Chain) (by decide +kernel)) (sub_of (kit_sub cq_Side ty_Side s_Side_Side s_Answer_Side) (by decide +kernel)))
      (cls_all (sub_of (kit_sub cq_Answer ty_Answer s_Answer_Answer s_Shared_Answer) (by decide +kernel)) (sub_of (kit_sub cq_Shared ty_Shared s_Shared_Shared s_Shared_Shared) (by decide +kernel)) (sub_of (kit_sub cq_Crowd ty_Crowd s_Crowd_Crowd s_Shared_Crowd) (by decide +kernel)) (sub_of (kit_sub cq_Even ty_Even s_Even_Even s_Shared_Even) (by decide +kernel)) (sub_of (kit_sub cq_Chain ty_Chain s_Chain_Chain s_Shared_Chain) (by decide +kernel)) (sub_of (kit_sub cq_Side ty_Side s_Side_Side s_Shared_Side) (by decide +kernel)))
      (cls_all (sub_of (kit_sub cq_Answer ty_Answer s_Answer_Answer s_Crowd_Answer) (by decide +kernel)) (sub_of (kit_sub cq_Shared ty_Shared s_Shared_Shared s_Crowd_Shared) (by decide +kernel)) (sub_of (kit_sub cq_Crowd ty_Crowd s_Crowd_Crowd s_Crowd_Crowd) (by decide +kernel)) (sub_of (kit_sub cq_Even ty_Even s_Even_Even s_Crowd_Even) (by decide +kernel)) (sub_of (kit_sub cq_Chain ty_Chain s_Chain_Chain s_Crowd_Chain) (by decide +kernel)) (sub_of (kit_sub cq_Side ty_Side s_Side_Side s_Crowd_Side) (by decide +kernel)))
      (cls_all (sub_of (kit_sub cq_Answer ty_Answer s_Answer_Answer s_Even_Answer) (by decide +kernel)) (sub_of (kit_sub cq_Shared ty_Shared s_Shared_Shared s_Even_Shared) (by decide +kernel)) (sub_of (kit_sub cq_Crowd ty_Crowd s_Crowd_Crowd s_Even_Crowd) (by decide +kernel)) (sub_of (kit_sub cq_Even ty_Even s_Even_Even s_Even_Even) (by decide +kernel)) (sub_of (kit_sub cq_Chain ty_Chain s_Chain_Chain s_Even_Chain) (by decide +kernel)) (sub_of (kit_sub cq_Side ty_Side s_Side_Side s_Even_Side) (by decide +kernel)))
      (cls_all (sub_of (kit_sub cq_Answer ty_Answer s_Answer_Answer s_Chain_Answer) (by decide +kernel)) (sub_of (kit_sub cq_Shared ty_Shared s_Shared_Shared s_Chain_Shared) (by decide +kernel)) (sub_of (kit_sub cq_Crowd ty_Crowd s_Crowd_Crowd s_Chain_Crowd) (by decide +kernel)) (sub_of (kit_sub cq_Even ty_Even s_Even_Even s_Chain_Even) (by decide +kernel)) (sub_of (kit_sub cq_Chain ty_Chain s_Chain_Chain s_Chain_Chain) (by decide +kernel)) (sub_of (kit_sub cq_Side ty_Side s_Side_Side s_Chain_Side) (by decide +kernel)))
      (cls_all (sub_of (kit_sub cq_Answer ty_Answer s_Answer_Answer s_Side_Answer) (by decide +kernel)) (sub_of (kit_sub cq_Shared ty_Shared s_Shared_Shared s_Side_Shared) (by decide +kernel)) (sub_of (kit_sub cq_Crowd ty_Crowd s_Crowd_Crowd s_Side_Crowd) (by decide +kernel)) (sub_of (kit_sub cq_Even ty_Even s_Even_Even s_Side_Even) (by decide +kernel)) (sub_of (kit_sub cq_Chain ty_Chain s_Chain_Chain s_Side_Chain) (by decide +kernel)) (sub_of (kit_sub cq_Side ty_Side s_Side_Side s_Side_Side) (by decide +kernel))),
    cls_all hc_Answer hc_Shared hc_Crowd hc_Even hc_Chain hc_Side, hn, ht, cls_all hm_Answer hm_Shared hm_Crowd hm_Even hm_Chain hm_Side⟩
  have EL : ∀ (aA : Addr) (nS : List Int) (hS : Prop) (tT : List (Addr × Str)) (lT : Nat → LI) (ow : _) (cb : _), ExT ⟨gam K, K, aA, nS, hS, none, tT, lT, ow, cb⟩ := fun aA nS hS tT lT ow cb => ⟨exc_all ⟨hg_BadPeople, hk_BadPeople, eb_BadPeople, hd_BadPeople, ha_BadPeople, hn, ht, hm_BadPeople⟩ ⟨hg_BadTasks, hk_BadTasks, eb_BadTasks, hd_BadTasks, ha_BadTasks, hn, ht, hm_BadTasks⟩ ⟨hg_BadLimits, hk_BadLimits, eb_BadLimits, hd_BadLimits, ha_BadLimits, hn, ht, hm_BadLimits⟩ ⟨hg_BadSharing, hk_BadSharing, eb_BadSharing, hd_BadSharing, ha_BadSharing, hn, ht, hm_BadSharing⟩ ⟨hg_BadPerson, hk_BadPerson, eb_BadPerson, hd_BadPerson, ha_BadPerson, hn, ht, hm_BadPerson⟩ ⟨hg_Unlike, hk_Unlike, eb_Unlike, hd_Unlike, ha_Unlike, hn, ht, hm_Unlike⟩,
    exc_all (exc_all (sub_of (kit_sub cq_BadPeople ty_BadPeople s_BadPeople_BadPeople s_BadPeople_BadPeople) (by decide +kernel)) (sub_of (kit_sub cq_BadPeople ty_BadPeople s_BadPeople_BadPeople s_BadTasks_BadPeople) (by decide +kernel)) (sub_of (kit_sub cq_BadPeople ty_BadPeople s_BadPeople_BadPeople s_BadLimits_BadPeople) (by decide +kernel)) (sub_of (kit_sub cq_BadPeople ty_BadPeople s_BadPeople_BadPeople s_BadSharing_BadPeople) (by decide +kernel)) (sub_of (kit_sub cq_BadPeople ty_BadPeople s_BadPeople_BadPeople s_BadPerson_BadPeople) (by decide +kernel)) (sub_of (kit_sub cq_BadPeople ty_BadPeople s_BadPeople_BadPeople s_Unlike_BadPeople) (by decide +kernel)))
      (exc_all (sub_of (kit_sub cq_BadTasks ty_BadTasks s_BadTasks_BadTasks s_BadPeople_BadTasks) (by decide +kernel)) (sub_of (kit_sub cq_BadTasks ty_BadTasks s_BadTasks_BadTasks s_BadTasks_BadTasks) (by decide +kernel)) (sub_of (kit_sub cq_BadTasks ty_BadTasks s_BadTasks_BadTasks s_BadLimits_BadTasks) (by decide +kernel)) (sub_of (kit_sub cq_BadTasks ty_BadTasks s_BadTasks_BadTasks s_BadSharing_BadTasks) (by decide +kernel)) (sub_of (kit_sub cq_BadTasks ty_BadTasks s_BadTasks_BadTasks s_BadPerson_BadTasks) (by decide +kernel)) (sub_of (kit_sub cq_BadTasks ty_BadTasks s_BadTasks_BadTasks s_Unlike_BadTasks) (by decide +kernel)))
      (exc_all (sub_of (kit_sub cq_BadLimits ty_BadLimits s_BadLimits_BadLimits s_BadPeople_BadLimits) (by decide +kernel)) (sub_of (kit_sub cq_BadLimits ty_BadLimits s_BadLimits_BadLimits s_BadTasks_BadLimits) (by decide +kernel)) (sub_of (kit_sub cq_BadLimits ty_BadLimits s_BadLimits_BadLimits s_BadLimits_BadLimits) (by decide +kernel)) (sub_of (kit_sub cq_BadLimits ty_BadLimits s_BadLimits_BadLimits s_BadSharing_BadLimits) (by decide +kernel)) (sub_of (kit_sub cq_BadLimits ty_BadLimits s_BadLimits_BadLimits s_BadPerson_BadLimits) (by decide +kernel)) (sub_of (kit_sub cq_BadLimits ty_BadLimits s_BadLimits_BadLimits s_Unlike_BadLimits) (by decide +kernel)))
      (exc_all (sub_of (kit_sub cq_BadSharing ty_BadSharing s_BadSharing_BadSharing s_BadPeople_BadSharing) (by decide +kernel)) (sub_of (kit_sub cq_BadSharing ty_BadSharing s_BadSharing_BadSharing s_BadTasks_BadSharing) (by decide +kernel)) (sub_of (kit_sub cq_BadSharing ty_BadSharing s_BadSharing_BadSharing s_BadLimits_BadSharing) (by decide +kernel)) (sub_of (kit_sub cq_BadSharing ty_BadSharing s_BadSharing_BadSharing s_BadSharing_BadSharing) (by decide +kernel)) (sub_of (kit_sub cq_BadSharing ty_BadSharing s_BadSharing_BadSharing s_BadPerson_BadSharing) (by decide +kernel)) (sub_of (kit_sub cq_BadSharing ty_BadSharing s_BadSharing_BadSharing s_Unlike_BadSharing) (by decide +kernel)))
      (exc_all (sub_of (kit_sub cq_BadPerson ty_BadPerson s_BadPerson_BadPerson s_BadPeople_BadPerson) (by decide +kernel)) (sub_of (kit_sub cq_BadPerson ty_BadPerson s_BadPerson_BadPerson s_BadTasks_BadPerson) (by decide +kernel)) (sub_of (kit_sub cq_BadPerson ty_BadPerson s_BadPerson_BadPerson s_BadLimits_BadPerson) (by decide +kernel)) (sub_of (kit_sub cq_BadPerson ty_BadPerson s_BadPerson_BadPerson s_BadSharing_BadPerson) (by decide +kernel)) (sub_of (kit_sub cq_BadPerson ty_BadPerson s_BadPerson_BadPerson s_BadPerson_BadPerson) (by decide +kernel)) (sub_of (kit_sub cq_BadPerson ty_BadPerson s_BadPerson_BadPerson s_Unlike_BadPerson) (by decide +kernel)))
      (exc_all (sub_of (kit_sub cq_Unlike ty_Unlike s_Unlike_Unlike s_BadPeople_Unlike) (by decide +kernel)) (sub_of (kit_sub cq_Unlike ty_Unlike s_Unlike_Unlike s_BadTasks_Unlike) (by decide +kernel)) (sub_of (kit_sub cq_Unlike ty_Unlike s_Unlike_Unlike s_BadLimits_Unlike) (by decide +kernel)) (sub_of (kit_sub cq_Unlike ty_Unlike s_Unlike_Unlike s_BadSharing_Unlike) (by decide +kernel)) (sub_of (kit_sub cq_Unlike ty_Unlike s_Unlike_Unlike s_BadPerson_Unlike) (by decide +kernel)) (sub_of (kit_sub cq_Unlike ty_Unlike s_Unlike_Unlike s_Unlike_Unlike) (by decide +kernel))),
    exc_all (PySem.W.exm_ref eb_EitherError hd_EitherError ty_EitherError s_BadPeople_EitherError) (PySem.W.exm_ref eb_EitherError hd_EitherError ty_EitherError s_BadTasks_EitherError) (PySem.W.exm_ref eb_EitherError hd_EitherError ty_EitherError s_BadLimits_EitherError) (PySem.W.exm_ref eb_EitherError hd_EitherError ty_EitherError s_BadSharing_EitherError) (PySem.W.exm_ref eb_EitherError hd_EitherError ty_EitherError s_BadPerson_EitherError) (PySem.W.exm_ref eb_EitherError hd_EitherError ty_EitherError s_Unlike_EitherError), rfl⟩
  have F0 := fun_mk (st := s_is_number) l0 c0 k0
  have b0 := F0.binds (ps := ["thing", "least"]) fun _ _ _ _ _ _ us hl => match us, hl with | [_, _], _ => rfl
  have F1 := fun_mk (st := s_is_task) l1 c1 k1
  have b1 := F1.binds (ps := ["thing", "people"]) fun _ _ _ _ _ _ us hl => match us, hl with | [_, _], _ => rfl
  have F2 := fun_mk (st := s_check_tasks) l2 c2 k2
  have b2 := F2.binds (ps := ["people", "tasks"]) fun _ _ _ _ _ _ us hl => match us, hl with | [_, _], _ => rfl
  have F3 := fun_mk (st := s_check_limits) l3 c3 k3
  have b3 := F3.binds (ps := ["people", "limits"]) fun _ _ _ _ _ _ us hl => match us, hl with | [_, _], _ => rfl
  have F4 := fun_mk (st := s_is_sharing) l4 c4 k4
  have b4 := F4.binds (ps := ["tasks", "sharing"]) fun _ _ _ _ _ _ us hl => match us, hl with | [_, _], _ => rfl
  have F5 := fun_mk (st := s_check_sharing) l5 c5 k5
  have b5 := F5.binds (ps := ["tasks", "sharing"]) fun _ _ _ _ _ _ us hl => match us, hl with | [_, _], _ => rfl
  have F6 := fun_mk (st := s_loads_of) l6 c6 k6
  have b6 := F6.binds (ps := ["people", "sharing"]) fun _ _ _ _ _ _ us hl => match us, hl with | [_, _], _ => rfl
  have F7 := fun_mk (st := s_loads) l7 c7 k7
  have b7 := F7.binds (ps := ["people", "tasks", "sharing"]) fun _ _ _ _ _ _ us hl => match us, hl with | [_, _, _], _ => rfl
  have F8 := fun_mk (st := s_second_of) l8 c8 k8
  have b8 := F8.binds (ps := ["task", "who"]) fun _ _ _ _ _ _ us hl => match us, hl with | [_, _], _ => rfl
  have F9 := fun_mk (st := s_among) l9 c9 k9
  have b9 := F9.binds (ps := ["tasks", "some"]) fun _ _ _ _ _ _ us hl => match us, hl with | [_, _], _ => rfl
  have F10 := fun_mk (st := s_are_people) l10 c10 k10
  have b10 := F10.binds (ps := ["some", "people"]) fun _ _ _ _ _ _ us hl => match us, hl with | [_, _], _ => rfl
  have F11 := fun_mk (st := s_Shared_init) l11 c11 k11
  have b11 := F11.binds (ps := ["self", "sharing"]) fun _ _ _ _ _ _ us hl => match us, hl with | [_, _], _ => rfl
  have F12 := fun_mk (st := s_Shared_shows) l12 c12 k12
  have b12 := F12.binds (ps := ["self", "people", "tasks", "limits"]) fun _ _ _ _ _ _ us hl => match us, hl with | [_, _, _, _], _ => rfl
  have F13 := fun_mk (st := s_Crowd_init) l13 c13 k13
  have b13 := F13.binds (ps := ["self", "some"]) fun _ _ _ _ _ _ us hl => match us, hl with | [_, _], _ => rfl
  have F14 := fun_mk (st := s_Crowd_shows) l14 c14 k14
  have b14 := F14.binds (ps := ["self", "people", "tasks", "limits"]) fun _ _ _ _ _ _ us hl => match us, hl with | [_, _, _, _], _ => rfl
  have F15 := fun_mk (st := s_Even_init) l15 c15 k15
  have b15 := F15.binds (ps := ["self", "sharing", "some"]) fun _ _ _ _ _ _ us hl => match us, hl with | [_, _, _], _ => rfl
  have F16 := fun_mk (st := s_Even_shows) l16 c16 k16
  have b16 := F16.binds (ps := ["self", "people", "tasks"]) fun _ _ _ _ _ _ us hl => match us, hl with | [_, _, _], _ => rfl
  have F17 := fun_mk (st := s_Chain_init) l17 c17 k17
  have b17 := F17.binds (ps := ["self", "tasks"]) fun _ _ _ _ _ _ us hl => match us, hl with | [_, _], _ => rfl
  have F18 := fun_mk (st := s_Chain_shows) l18 c18 k18
  have b18 := F18.binds (ps := ["self", "people", "tasks", "sharing", "one", "other"]) fun _ _ _ _ _ _ us hl => match us, hl with | [_, _, _, _, _, _], _ => rfl
  have F19 := fun_mk (st := s_Side_init) l19 c19 k19
  have b19 := F19.binds (ps := ["self", "some"]) fun _ _ _ _ _ _ us hl => match us, hl with | [_, _], _ => rfl
  have F20 := fun_mk (st := s_Side_shows) l20 c20 k20
  have b20 := F20.binds (ps := ["self", "people", "tasks", "sharing", "one", "other"]) fun _ _ _ _ _ _ us hl => match us, hl with | [_, _, _, _, _, _], _ => rfl
  have F21 := fun_mk (st := s_came_from) l21 c21 k21
  have b21 := F21.binds (ps := ["tasks", "sharing", "begins"]) fun _ _ _ _ _ _ us hl => match us, hl with | [_, _, _], _ => rfl
  have F22 := fun_mk (st := s_chain_to) l22 c22 k22
  have b22 := F22.binds (ps := ["tasks", "came", "person"]) fun _ _ _ _ _ _ us hl => match us, hl with | [_, _, _], _ => rfl
  have F23 := fun_mk (st := s_share) l23 c23 k23
  have b23 := F23.binds (ps := ["people", "tasks", "limits"]) fun _ _ _ _ _ _ us hl => match us, hl with | [_, _, _], _ => rfl
  have F24 := fun_mk (st := s_shared) l24 c24 k24
  have b24 := F24.binds (ps := ["people", "tasks", "limits"]) fun _ _ _ _ _ _ us hl => match us, hl with | [_, _, _], _ => rfl
  have F25 := fun_mk (st := s_evenest) l25 c25 k25
  have b25 := F25.binds (ps := ["people", "tasks"]) fun _ _ _ _ _ _ us hl => match us, hl with | [_, _], _ => rfl
  have F26 := fun_mk (st := s_passed) l26 c26 k26
  have b26 := F26.binds (ps := ["people", "tasks", "sharing", "one", "other"]) fun _ _ _ _ _ _ us hl => match us, hl with | [_, _, _, _, _], _ => rfl
  have F27 := fun_mk (st := s_rings_from) l27 c27 k27
  have b27 := F27.binds (ps := ["person", "giving", "another"]) fun _ _ _ _ _ _ us hl => match us, hl with | [_, _, _], _ => rfl
  have F28 := fun_mk (st := s_rings) l28 c28 k28
  have b28 := F28.binds (ps := ["people", "tasks", "sharing", "another"]) fun _ _ _ _ _ _ us hl => match us, hl with | [_, _, _, _], _ => rfl
  have F29 := fun_mk (st := s__law_word) l29 c29 k29
  have b29 := F29.binds (ps := ["_law_ask", "_law_thing"]) fun _ _ _ _ _ _ us hl => match us, hl with | [_, _], _ => rfl
  have F30 := fun_mk (st := s__law_limits_right) l30 c30 k30
  have b30 := F30.binds (ps := ["_law_far"]) fun _ _ _ _ _ _ us hl => match us, hl with | [_], _ => rfl
  have F31 := fun_mk (st := s__law_even_right) l31 c31 k31
  have b31 := F31.binds (ps := []) fun _ _ _ _ _ _ us hl => match us, hl with | [], _ => rfl
  have F32 := fun_mk (st := s__law_passed_right) l32 c32 k32
  have b32 := F32.binds (ps := []) fun _ _ _ _ _ _ us hl => match us, hl with | [], _ => rfl
  have F33 := fun_mk (st := s__law_rings_right) l33 c33 k33
  have b33 := F33.binds (ps := []) fun _ _ _ _ _ _ us hl => match us, hl with | [], _ => rfl
  have F34 := fun_mk (st := s__law_refused_right) l34 c34 k34
  have b34 := F34.binds (ps := ["_law_far"]) fun _ _ _ _ _ _ us hl => match us, hl with | [_], _ => rfl
  have F35 := fun_mk (st := s_law) l35 c35 k35
  have TX : ∀ (aA : Addr) (nS : List Int) (hS : Prop) (tT : List (Addr × Str)) (lT : Nat → LI) (ow : _) (cb : _), Tx ⟨gam K, K, aA, nS, hS, none, tT, lT, ow, cb⟩ mg := fun aA nS hS tT lT ow cb => ⟨B, ⟨_, PySem.W.mg_of X G zM⟩, EL _ _ _ _ _ _ _, PySem.W.mg_none_of X G z_ValueError, exc_all (kit_val ev_BadPeople) (kit_val ev_BadTasks) (kit_val ev_BadLimits) (kit_val ev_BadSharing) (kit_val ev_BadPerson) (kit_val ev_Unlike), PySem.W.mg_of X G a_EitherError, PySem.W.mg_of X G a_BadPeople, PySem.W.mg_of X G a_BadTasks, PySem.W.mg_of X G a_BadLimits, PySem.W.mg_of X G a_BadSharing, PySem.W.mg_of X G a_BadPerson, PySem.W.mg_of X G a_Unlike, xi_BadPeople, kp_BadPeople, eb_BadPeople, ty_BadPeople, xi_BadTasks, kp_BadTasks, eb_BadTasks, ty_BadTasks, xi_BadLimits, kp_BadLimits, eb_BadLimits, ty_BadLimits, xi_BadSharing, kp_BadSharing, eb_BadSharing, ty_BadSharing, xi_BadPerson, kp_BadPerson, eb_BadPerson, ty_BadPerson, xi_Unlike, kp_Unlike, eb_Unlike, ty_Unlike, CL _ _ _ _ _ _ _, cls_all na_sharing_Answer na_sharing_Shared na_sharing_Crowd na_sharing_Even na_sharing_Chain na_sharing_Side, cls_all na_some_Answer na_some_Shared na_some_Crowd na_some_Even na_some_Chain na_some_Side, cls_all na_tasks_Answer na_tasks_Shared na_tasks_Crowd na_tasks_Even na_tasks_Chain na_tasks_Side, PySem.W.mg_of X G a_Answer, PySem.W.mg_of X G a_Shared, PySem.W.mg_of X G a_Crowd, PySem.W.mg_of X G a_Even, PySem.W.mg_of X G a_Chain, PySem.W.mg_of X G a_Side⟩
  refine ⟨_, [("_law_refused_right.<locals>.<lambda>", cA34, PA34)], fun p hp => by
    simp only [List.mem_cons, List.not_mem_nil, or_false] at hp
    subst hp; exact mkT TT X hr34 ht34 hn34, fun s v => .of_eq rfl, fun base _ _ hTB => fnok_exZ fun aA nS hS => chain (g := gmZ K aA nS hS [(PA34, ("_law_refused_right.<locals>.<lambda>" : Str))] lamT) (fun ow cb => TX _ _ _ _ _ _ _) rfl F0 (PySem.W.mg_of X G a0) b0 F1 (PySem.W.mg_of X G a1) b1 F2 (PySem.W.mg_of X G a2) b2 F3 (PySem.W.mg_of X G a3) b3 F4 (PySem.W.mg_of X G a4) b4 F5 (PySem.W.mg_of X G a5) b5 F6 (PySem.W.mg_of X G a6) b6 F7 (PySem.W.mg_of X G a7) b7 F8 (PySem.W.mg_of X G a8) b8 F9 (PySem.W.mg_of X G a9) b9 F10 (PySem.W.mg_of X G a10) b10 F11 ⟨mk_Shared, a11, i11, kc_Shared⟩ b11 F12 ⟨a12, i12, k12⟩ b12 F13 ⟨mk_Crowd, a13, i13, kc_Crowd⟩ b13 F14 ⟨a14, i14, k14⟩ b14 F15 ⟨mk_Even, a15, i15, kc_Even⟩ b15 F16 ⟨a16, i16, k16⟩ b16 F17 ⟨mk_Chain, a17, i17, kc_Chain⟩ b17 F18 ⟨a18, i18, k18⟩ b18 F19 ⟨mk_Side, a19, i19, kc_Side⟩ b19 F20 ⟨a20, i20, k20⟩ b20 F21 (PySem.W.mg_of X G a21) b21 F22 (PySem.W.mg_of X G a22) b22 F23 (PySem.W.mg_of X G a23) b23 F24 (PySem.W.mg_of X G a24) b24 F25 (PySem.W.mg_of X G a25) b25 F26 (PySem.W.mg_of X G a26) b26 F27 (PySem.W.mg_of X G a27) b27 F28 (PySem.W.mg_of X G a28) b28 F29 (PySem.W.mg_of X G a29) b29 F30 (PySem.W.mg_of X G a30) b30 F31 (PySem.W.mg_of X G a31) b31 F32 (PySem.W.mg_of X G a32) b32 F33 (PySem.W.mg_of X G a33) b33 F34 rfl (hTB ("_law_refused_right.<locals>.<lambda>", cA34, PA34) (by simp)) (by show _ ∈ [(PA34, ("_law_refused_right.<locals>.<lambda>" : Str))]; simp) (fun p hp e => by have hp : p ∈ [(PA34, ("_law_refused_right.<locals>.<lambda>" : Str))] := hp; simp only [List.mem_cons, List.not_mem_nil, or_false] at hp; subst hp; rfl) (PySem.W.mg_of X G a34) b34 F35⟩

end
end IL
open PySem PySem.W PyProof.Rows in
set_option maxRecDepth 100000 in
set_option maxHeartbeats 0 in
theorem PySem.Challenge.cw_eitherdoes_k10_promises_by_hand_holds : PySem.Challenge.rw_eitherdoes_k10_promises_by_hand.Holds := by
  w_on; o_law; k_head; (case hw => w_witness2)
  k_fill
  refine IL.walkZ (l := PySem.Challenge.rw_eitherdoes_k10_promises_by_hand) (k := 8) (x := "_law_script") (i := IL.i_law) (lam := IL.lamT) rfl rfl ⟨rfl, by decide, by decide⟩ (fun w h Y => PySem.W.km_in_of Y) ?F (fun ns hl hb => IL.law_true10 hl hb)
  case F =>
    intro w mg mb fa h mean TT KX G hmg
    refine' IL.all_mk TT KX G hmg ?a_Answer ?cq_Answer ?pg_Answer ?hd_Answer ?po_Answer ?sa_Answer ?hc_Answer ?hm_Answer ?ty_Answer ?na_sharing_Answer ?na_some_Answer ?na_tasks_Answer ?a_Shared ?cq_Shared ?pg_Shared ?hd_Shared ?po_Shared ?sa_Shared ?hc_Shared ?hm_Shared ?ty_Shared ?na_sharing_Shared ?na_some_Shared ?na_tasks_Shared ?mk_Shared ?kc_Shared ?a_Crowd ?cq_Crowd ?pg_Crowd ?hd_Crowd ?po_Crowd ?sa_Crowd ?hc_Crowd ?hm_Crowd ?ty_Crowd ?na_sharing_Crowd ?na_some_Crowd ?na_tasks_Crowd ?mk_Crowd ?kc_Crowd ?a_Even ?cq_Even ?pg_Even ?hd_Even ?po_Even ?sa_Even ?hc_Even ?hm_Even ?ty_Even ?na_sharing_Even ?na_some_Even ?na_tasks_Even ?mk_Even ?kc_Even ?a_Chain ?cq_Chain ?pg_Chain ?hd_Chain ?po_Chain ?sa_Chain ?hc_Chain ?hm_Chain ?ty_Chain ?na_sharing_Chain ?na_some_Chain ?na_tasks_Chain ?mk_Chain ?kc_Chain ?a_Side ?cq_Side ?pg_Side ?hd_Side ?po_Side ?sa_Side ?hc_Side ?hm_Side ?ty_Side ?na_sharing_Side ?na_some_Side ?na_tasks_Side ?mk_Side ?kc_Side ?s_Answer_Answer ?s_Answer_Shared ?s_Answer_Crowd ?s_Answer_Even ?s_Answer_Chain ?s_Answer_Side ?s_Shared_Answer ?s_Shared_Shared ?s_Shared_Crowd ?s_Shared_Even ?s_Shared_Chain ?s_Shared_Side ?s_Crowd_Answer ?s_Crowd_Shared ?s_Crowd_Crowd ?s_Crowd_Even ?s_Crowd_Chain ?s_Crowd_Side ?s_Even_Answer ?s_Even_Shared ?s_Even_Crowd ?s_Even_Even ?s_Even_Chain ?s_Even_Side ?s_Chain_Answer ?s_Chain_Shared ?s_Chain_Crowd ?s_Chain_Even ?s_Chain_Chain ?s_Chain_Side ?s_Side_Answer ?s_Side_Shared ?s_Side_Crowd ?s_Side_Even ?s_Side_Chain ?s_Side_Side ?hn ?ht ?a_EitherError ?cq_EitherError ?hd_EitherError ?eb_EitherError ?ty_EitherError ?a_BadPeople ?cq_BadPeople ?hd_BadPeople ?eb_BadPeople ?ty_BadPeople ?hg_BadPeople ?hk_BadPeople ?ha_BadPeople ?hm_BadPeople ?kp_BadPeople ?ev_BadPeople ?xi_BadPeople ?a_BadTasks ?cq_BadTasks ?hd_BadTasks ?eb_BadTasks ?ty_BadTasks ?hg_BadTasks ?hk_BadTasks ?ha_BadTasks ?hm_BadTasks ?kp_BadTasks ?ev_BadTasks ?xi_BadTasks ?a_BadLimits ?cq_BadLimits ?hd_BadLimits ?eb_BadLimits ?ty_BadLimits ?hg_BadLimits ?hk_BadLimits ?ha_BadLimits ?hm_BadLimits ?kp_BadLimits ?ev_BadLimits ?xi_BadLimits ?a_BadSharing ?cq_BadSharing ?hd_BadSharing ?eb_BadSharing ?ty_BadSharing ?hg_BadSharing ?hk_BadSharing ?ha_BadSharing ?hm_BadSharing ?kp_BadSharing ?ev_BadSharing ?xi_BadSharing ?a_BadPerson ?cq_BadPerson ?hd_BadPerson ?eb_BadPerson ?ty_BadPerson ?hg_BadPerson ?hk_BadPerson ?ha_BadPerson ?hm_BadPerson ?kp_BadPerson ?ev_BadPerson ?xi_BadPerson ?a_Unlike ?cq_Unlike ?hd_Unlike ?eb_Unlike ?ty_Unlike ?hg_Unlike ?hk_Unlike ?ha_Unlike ?hm_Unlike ?kp_Unlike ?ev_Unlike ?xi_Unlike ?s_BadPeople_EitherError ?s_BadPeople_BadPeople ?s_BadPeople_BadTasks ?s_BadPeople_BadLimits ?s_BadPeople_BadSharing ?s_BadPeople_BadPerson ?s_BadPeople_Unlike ?s_BadTasks_EitherError ?s_BadTasks_BadPeople ?s_BadTasks_BadTasks ?s_BadTasks_BadLimits ?s_BadTasks_BadSharing ?s_BadTasks_BadPerson ?s_BadTasks_Unlike ?s_BadLimits_EitherError ?s_BadLimits_BadPeople ?s_BadLimits_BadTasks ?s_BadLimits_BadLimits ?s_BadLimits_BadSharing ?s_BadLimits_BadPerson ?s_BadLimits_Unlike ?s_BadSharing_EitherError ?s_BadSharing_BadPeople ?s_BadSharing_BadTasks ?s_BadSharing_BadLimits ?s_BadSharing_BadSharing ?s_BadSharing_BadPerson ?s_BadSharing_Unlike ?s_BadPerson_EitherError ?s_BadPerson_BadPeople ?s_BadPerson_BadTasks ?s_BadPerson_BadLimits ?s_BadPerson_BadSharing ?s_BadPerson_BadPerson ?s_BadPerson_Unlike ?s_Unlike_EitherError ?s_Unlike_BadPeople ?s_Unlike_BadTasks ?s_Unlike_BadLimits ?s_Unlike_BadSharing ?s_Unlike_BadPerson ?s_Unlike_Unlike ?a0 ?l0 ?c0 ?k0 ?a1 ?l1 ?c1 ?k1 ?a2 ?l2 ?c2 ?k2 ?a3 ?l3 ?c3 ?k3 ?a4 ?l4 ?c4 ?k4 ?a5 ?l5 ?c5 ?k5 ?a6 ?l6 ?c6 ?k6 ?a7 ?l7 ?c7 ?k7 ?a8 ?l8 ?c8 ?k8 ?a9 ?l9 ?c9 ?k9 ?a10 ?l10 ?c10 ?k10 ?a11 ?i11 ?l11 ?c11 ?k11 ?a12 ?i12 ?l12 ?c12 ?k12 ?a13 ?i13 ?l13 ?c13 ?k13 ?a14 ?i14 ?l14 ?c14 ?k14 ?a15 ?i15 ?l15 ?c15 ?k15 ?a16 ?i16 ?l16 ?c16 ?k16 ?a17 ?i17 ?l17 ?c17 ?k17 ?a18 ?i18 ?l18 ?c18 ?k18 ?a19 ?i19 ?l19 ?c19 ?k19 ?a20 ?i20 ?l20 ?c20 ?k20 ?a21 ?l21 ?c21 ?k21 ?a22 ?l22 ?c22 ?k22 ?a23 ?l23 ?c23 ?k23 ?a24 ?l24 ?c24 ?k24 ?a25 ?l25 ?c25 ?k25 ?a26 ?l26 ?c26 ?k26 ?a27 ?l27 ?c27 ?k27 ?a28 ?l28 ?c28 ?k28 ?a29 ?l29 ?c29 ?k29 ?a30 ?l30 ?c30 ?k30 ?a31 ?l31 ?c31 ?k31 ?a32 ?l32 ?c32 ?k32 ?a33 ?l33 ?c33 ?k33 ?a34 ?l34 ?c34 ?k34 ?lc34 ?hv34 ?ht34 ?hn34 ?hr34 ?a35 ?l35 ?c35 ?k35 ?z_len ?z_isinstance ?z_int ?z_bool ?z_list ?z_tuple ?z_all ?z_any ?z_sum ?z_max ?z_min ?z_sorted ?z_set ?z_range ?z_enumerate ?z_zip ?z_abs ?z_str ?z_ValueError ?zM
    (case a_Answer => k_is)
    (case cq_Answer => k_is)
    (case pg_Answer => k_is)
    (case hd_Answer => k_is)
    (case po_Answer => k_is)
    (case sa_Answer => k_is)
    (case hc_Answer => k_is)
    (case hm_Answer => k_is)
    (case ty_Answer => k_is)
    (case na_sharing_Answer => k_is)
    (case na_some_Answer => k_is)
    (case na_tasks_Answer => k_is)
    (case a_Shared => k_is)
    (case cq_Shared => k_is)
    (case pg_Shared => k_is)
    (case hd_Shared => k_is)
    (case po_Shared => k_is)
    (case sa_Shared => k_is)
    (case hc_Shared => k_is)
    (case hm_Shared => k_is)
    (case ty_Shared => k_is)
    (case na_sharing_Shared => k_is)
    (case na_some_Shared => k_is)
    (case na_tasks_Shared => k_is)
    (case mk_Shared => k_is)
    (case kc_Shared => k_is)
    (case a_Crowd => k_is)
    (case cq_Crowd => k_is)
    (case pg_Crowd => k_is)
    (case hd_Crowd => k_is)
    (case po_Crowd => k_is)
    (case sa_Crowd => k_is)
    (case hc_Crowd => k_is)
    (case hm_Crowd => k_is)
    (case ty_Crowd => k_is)
    (case na_sharing_Crowd => k_is)
    (case na_some_Crowd => k_is)
    (case na_tasks_Crowd => k_is)
    (case mk_Crowd => k_is)
    (case kc_Crowd => k_is)
    (case a_Even => k_is)
    (case cq_Even => k_is)
    (case pg_Even => k_is)
    (case hd_Even => k_is)
    (case po_Even => k_is)
    (case sa_Even => k_is)
    (case hc_Even => k_is)
    (case hm_Even => k_is)
    (case ty_Even => k_is)
    (case na_sharing_Even => k_is)
    (case na_some_Even => k_is)
    (case na_tasks_Even => k_is)
    (case mk_Even => k_is)
    (case kc_Even => k_is)
    (case a_Chain => k_is)
    (case cq_Chain => k_is)
    (case pg_Chain => k_is)
    (case hd_Chain => k_is)
    (case po_Chain => k_is)
    (case sa_Chain => k_is)
    (case hc_Chain => k_is)
    (case hm_Chain => k_is)
    (case ty_Chain => k_is)
    (case na_sharing_Chain => k_is)
    (case na_some_Chain => k_is)
    (case na_tasks_Chain => k_is)
    (case mk_Chain => k_is)
    (case kc_Chain => k_is)
    (case a_Side => k_is)
    (case cq_Side => k_is)
    (case pg_Side => k_is)
    (case hd_Side => k_is)
    (case po_Side => k_is)
    (case sa_Side => k_is)
    (case hc_Side => k_is)
    (case hm_Side => k_is)
    (case ty_Side => k_is)
    (case na_sharing_Side => k_is)
    (case na_some_Side => k_is)
    (case na_tasks_Side => k_is)
    (case mk_Side => k_is)
    (case kc_Side => k_is)
    (case s_Answer_Answer => k_is)
    (case s_Answer_Shared => k_is)
    (case s_Answer_Crowd => k_is)
    (case s_Answer_Even => k_is)
    (case s_Answer_Chain => k_is)
    (case s_Answer_Side => k_is)
    (case s_Shared_Answer => k_is)
    (case s_Shared_Shared => k_is)
    (case s_Shared_Crowd => k_is)
    (case s_Shared_Even => k_is)
    (case s_Shared_Chain => k_is)
    (case s_Shared_Side => k_is)
    (case s_Crowd_Answer => k_is)
    (case s_Crowd_Shared => k_is)
    (case s_Crowd_Crowd => k_is)
    (case s_Crowd_Even => k_is)
    (case s_Crowd_Chain => k_is)
    (case s_Crowd_Side => k_is)
    (case s_Even_Answer => k_is)
    (case s_Even_Shared => k_is)
    (case s_Even_Crowd => k_is)
    (case s_Even_Even => k_is)
    (case s_Even_Chain => k_is)
    (case s_Even_Side => k_is)
    (case s_Chain_Answer => k_is)
    (case s_Chain_Shared => k_is)
    (case s_Chain_Crowd => k_is)
    (case s_Chain_Even => k_is)
    (case s_Chain_Chain => k_is)
    (case s_Chain_Side => k_is)
    (case s_Side_Answer => k_is)
    (case s_Side_Shared => k_is)
    (case s_Side_Crowd => k_is)
    (case s_Side_Even => k_is)
    (case s_Side_Chain => k_is)
    (case s_Side_Side => k_is)
    (case hn => k_is)
    (case ht => k_is)
    (case a_EitherError => k_is)
    (case cq_EitherError => k_is)
    (case hd_EitherError => k_is)
    (case eb_EitherError => k_is)
    (case ty_EitherError => k_is)
    (case a_BadPeople => k_is)
    (case cq_BadPeople => k_is)
    (case hd_BadPeople => k_is)
    (case eb_BadPeople => k_is)
    (case ty_BadPeople => k_is)
    (case hg_BadPeople => k_is)
    (case hk_BadPeople => k_is)
    (case ha_BadPeople => k_is)
    (case hm_BadPeople => k_is)
    (case kp_BadPeople => k_is)
    (case ev_BadPeople => k_is)
    (case xi_BadPeople => k_exc)
    (case a_BadTasks => k_is)
    (case cq_BadTasks => k_is)
    (case hd_BadTasks => k_is)
    (case eb_BadTasks => k_is)
    (case ty_BadTasks => k_is)
    (case hg_BadTasks => k_is)
    (case hk_BadTasks => k_is)
    (case ha_BadTasks => k_is)
    (case hm_BadTasks => k_is)
    (case kp_BadTasks => k_is)
    (case ev_BadTasks => k_is)
    (case xi_BadTasks => k_exc)
    (case a_BadLimits => k_is)
    (case cq_BadLimits => k_is)
    (case hd_BadLimits => k_is)
    (case eb_BadLimits => k_is)
    (case ty_BadLimits => k_is)
    (case hg_BadLimits => k_is)
    (case hk_BadLimits => k_is)
    (case ha_BadLimits => k_is)
    (case hm_BadLimits => k_is)
    (case kp_BadLimits => k_is)
    (case ev_BadLimits => k_is)
    (case xi_BadLimits => k_exc)
    (case a_BadSharing => k_is)
    (case cq_BadSharing => k_is)
    (case hd_BadSharing => k_is)
    (case eb_BadSharing => k_is)
    (case ty_BadSharing => k_is)
    (case hg_BadSharing => k_is)
    (case hk_BadSharing => k_is)
    (case ha_BadSharing => k_is)
    (case hm_BadSharing => k_is)
    (case kp_BadSharing => k_is)
    (case ev_BadSharing => k_is)
    (case xi_BadSharing => k_exc)
    (case a_BadPerson => k_is)
    (case cq_BadPerson => k_is)
    (case hd_BadPerson => k_is)
    (case eb_BadPerson => k_is)
    (case ty_BadPerson => k_is)
    (case hg_BadPerson => k_is)
    (case hk_BadPerson => k_is)
    (case ha_BadPerson => k_is)
    (case hm_BadPerson => k_is)
    (case kp_BadPerson => k_is)
    (case ev_BadPerson => k_is)
    (case xi_BadPerson => k_exc)
    (case a_Unlike => k_is)
    (case cq_Unlike => k_is)
    (case hd_Unlike => k_is)
    (case eb_Unlike => k_is)
    (case ty_Unlike => k_is)
    (case hg_Unlike => k_is)
    (case hk_Unlike => k_is)
    (case ha_Unlike => k_is)
    (case hm_Unlike => k_is)
    (case kp_Unlike => k_is)
    (case ev_Unlike => k_is)
    (case xi_Unlike => k_exc)
    (case s_BadPeople_EitherError => k_is)
    (case s_BadPeople_BadPeople => k_is)
    (case s_BadPeople_BadTasks => k_is)
    (case s_BadPeople_BadLimits => k_is)
    (case s_BadPeople_BadSharing => k_is)
    (case s_BadPeople_BadPerson => k_is)
    (case s_BadPeople_Unlike => k_is)
    (case s_BadTasks_EitherError => k_is)
    (case s_BadTasks_BadPeople => k_is)
    (case s_BadTasks_BadTasks => k_is)
    (case s_BadTasks_BadLimits => k_is)
    (case s_BadTasks_BadSharing => k_is)
    (case s_BadTasks_BadPerson => k_is)
    (case s_BadTasks_Unlike => k_is)
    (case s_BadLimits_EitherError => k_is)
    (case s_BadLimits_BadPeople => k_is)
    (case s_BadLimits_BadTasks => k_is)
    (case s_BadLimits_BadLimits => k_is)
    (case s_BadLimits_BadSharing => k_is)
    (case s_BadLimits_BadPerson => k_is)
    (case s_BadLimits_Unlike => k_is)
    (case s_BadSharing_EitherError => k_is)
    (case s_BadSharing_BadPeople => k_is)
    (case s_BadSharing_BadTasks => k_is)
    (case s_BadSharing_BadLimits => k_is)
    (case s_BadSharing_BadSharing => k_is)
    (case s_BadSharing_BadPerson => k_is)
    (case s_BadSharing_Unlike => k_is)
    (case s_BadPerson_EitherError => k_is)
    (case s_BadPerson_BadPeople => k_is)
    (case s_BadPerson_BadTasks => k_is)
    (case s_BadPerson_BadLimits => k_is)
    (case s_BadPerson_BadSharing => k_is)
    (case s_BadPerson_BadPerson => k_is)
    (case s_BadPerson_Unlike => k_is)
    (case s_Unlike_EitherError => k_is)
    (case s_Unlike_BadPeople => k_is)
    (case s_Unlike_BadTasks => k_is)
    (case s_Unlike_BadLimits => k_is)
    (case s_Unlike_BadSharing => k_is)
    (case s_Unlike_BadPerson => k_is)
    (case s_Unlike_Unlike => k_is)
    (case a0 => k_is)
    (case l0 => k_is)
    (case c0 => k_is)
    (case k0 => k_is)
    (case a1 => k_is)
    (case l1 => k_is)
    (case c1 => k_is)
    (case k1 => k_is)
    (case a2 => k_is)
    (case l2 => k_is)
    (case c2 => k_is)
    (case k2 => k_is)
    (case a3 => k_is)
    (case l3 => k_is)
    (case c3 => k_is)
    (case k3 => k_is)
    (case a4 => k_is)
    (case l4 => k_is)
    (case c4 => k_is)
    (case k4 => k_is)
    (case a5 => k_is)
    (case l5 => k_is)
    (case c5 => k_is)
    (case k5 => k_is)
    (case a6 => k_is)
    (case l6 => k_is)
    (case c6 => k_is)
    (case k6 => k_is)
    (case a7 => k_is)
    (case l7 => k_is)
    (case c7 => k_is)
    (case k7 => k_is)
    (case a8 => k_is)
    (case l8 => k_is)
    (case c8 => k_is)
    (case k8 => k_is)
    (case a9 => k_is)
    (case l9 => k_is)
    (case c9 => k_is)
    (case k9 => k_is)
    (case a10 => k_is)
    (case l10 => k_is)
    (case c10 => k_is)
    (case k10 => k_is)
    (case a11 => k_is)
    (case i11 => k_is)
    (case l11 => k_is)
    (case c11 => k_is)
    (case k11 => k_is)
    (case a12 => k_is)
    (case i12 => k_is)
    (case l12 => k_is)
    (case c12 => k_is)
    (case k12 => k_is)
    (case a13 => k_is)
    (case i13 => k_is)
    (case l13 => k_is)
    (case c13 => k_is)
    (case k13 => k_is)
    (case a14 => k_is)
    (case i14 => k_is)
    (case l14 => k_is)
    (case c14 => k_is)
    (case k14 => k_is)
    (case a15 => k_is)
    (case i15 => k_is)
    (case l15 => k_is)
    (case c15 => k_is)
    (case k15 => k_is)
    (case a16 => k_is)
    (case i16 => k_is)
    (case l16 => k_is)
    (case c16 => k_is)
    (case k16 => k_is)
    (case a17 => k_is)
    (case i17 => k_is)
    (case l17 => k_is)
    (case c17 => k_is)
    (case k17 => k_is)
    (case a18 => k_is)
    (case i18 => k_is)
    (case l18 => k_is)
    (case c18 => k_is)
    (case k18 => k_is)
    (case a19 => k_is)
    (case i19 => k_is)
    (case l19 => k_is)
    (case c19 => k_is)
    (case k19 => k_is)
    (case a20 => k_is)
    (case i20 => k_is)
    (case l20 => k_is)
    (case c20 => k_is)
    (case k20 => k_is)
    (case a21 => k_is)
    (case l21 => k_is)
    (case c21 => k_is)
    (case k21 => k_is)
    (case a22 => k_is)
    (case l22 => k_is)
    (case c22 => k_is)
    (case k22 => k_is)
    (case a23 => k_is)
    (case l23 => k_is)
    (case c23 => k_is)
    (case k23 => k_is)
    (case a24 => k_is)
    (case l24 => k_is)
    (case c24 => k_is)
    (case k24 => k_is)
    (case a25 => k_is)
    (case l25 => k_is)
    (case c25 => k_is)
    (case k25 => k_is)
    (case a26 => k_is)
    (case l26 => k_is)
    (case c26 => k_is)
    (case k26 => k_is)
    (case a27 => k_is)
    (case l27 => k_is)
    (case c27 => k_is)
    (case k27 => k_is)
    (case a28 => k_is)
    (case l28 => k_is)
    (case c28 => k_is)
    (case k28 => k_is)
    (case a29 => k_is)
    (case l29 => k_is)
    (case c29 => k_is)
    (case k29 => k_is)
    (case a30 => k_is)
    (case l30 => k_is)
    (case c30 => k_is)
    (case k30 => k_is)
    (case a31 => k_is)
    (case l31 => k_is)
    (case c31 => k_is)
    (case k31 => k_is)
    (case a32 => k_is)
    (case l32 => k_is)
    (case c32 => k_is)
    (case k32 => k_is)
    (case a33 => k_is)
    (case l33 => k_is)
    (case c33 => k_is)
    (case k33 => k_is)
    (case a34 => k_is)
    (case l34 => k_is)
    (case c34 => k_is)
    (case k34 => k_is)
    (case lc34 => k_is)
    (case hv34 => rfl)
    (case ht34 => kernel_rfl)
    (case hn34 => kernel_rfl)
    (case hr34 => rfl)
    (case a35 => k_is)
    (case l35 => k_is)
    (case c35 => k_is)
    (case k35 => k_is)
    (case z_len => k_is)
    (case z_isinstance => k_is)
    (case z_int => k_is)
    (case z_bool => k_is)
    (case z_list => k_is)
    (case z_tuple => k_is)
    (case z_all => k_is)
    (case z_any => k_is)
    (case z_sum => k_is)
    (case z_max => k_is)
    (case z_min => k_is)
    (case z_sorted => k_is)
    (case z_set => k_is)
    (case z_range => k_is)
    (case z_enumerate => k_is)
    (case z_zip => k_is)
    (case z_abs => k_is)
    (case z_str => k_is)
    (case z_ValueError => k_is)
    (case zM => k_is)

end
#print axioms PySem.Challenge.cw_eitherdoes_k10_promises_by_hand_holds
