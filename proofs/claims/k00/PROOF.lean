import PyProof.Rows.All
import Wide.All
import OpenK.AllK
import Wide.FinOn
import HandS.ForMost
import HandS.ForExc
import HandS.WideBits
import HandS.Flow
import HandS.Style
import HandS.SetFor
import HandS.TupAny
import HandS.TupMul
import KE.DataEq
import HandS.WideMore
import HandS.Wide
import HandS.Text
import KE.DataFind
import KE.DataIsa
import HandS.ExcIs
import HandS.HotCalls
import PyProof.ReprRoads
import PyProof.CallFns
import HandS.Deep
import HandS.ExcOwn
import PyProof.ReprBulk
import PySem.Challenge.RW_errseen_k00_polynomials_over_bits
set_option Elab.async false
set_option linter.all false
set_option maxRecDepth 100000
set_option maxHeartbeats 400000
namespace EV
open PySem PySem.Spec PyProof.Rows L2
abbrev D := PyData
abbrev Zs := Addr → Prop
abbrev St := L2.St

def keyD : Key → D
  | .inl i => .int i
  | .inr x => .str x

/-- a tuple: tracked, or of the written part -/
def Tp (K : PySem.W.Frag) (H : Hp) (a : Addr) (xs : List V) : Prop :=
  H a = some (.tup xs) ∨ ∃ (o : Obj) (its : Array Value) (n : Nat), K.lookup a = some o ∧ o.cls = .type "tuple" ∧ o.data = .seq its n ∧ its.size ≤ sizeLine ∧ Vals xs its.toList
theorem Tp.sq {K : PySem.W.Frag} {H : Hp} {a : Addr} {xs : List V} (h : Tp K H a xs) : SqT K H a xs := h.elim (fun h => .inl (.inl h)) .inr

mutual
inductive Rp (K : PySem.W.Frag) (Z : Zs) (H : Hp) : V → D → Prop
  | non : Rp K Z H .non .none
  | bl (b : Bool) : Rp K Z H (.bl b) (.bool b)
  | int (i : Int) : Rp K Z H (.int i) (.int i)
  | str (x : Str) : Rp K Z H (.str x) (.str x)
  | lz {a : Addr} {xs : List V} {ds : List D} : Z a → H a = some (.lst xs) → RpAll K Z H xs ds → Rp K Z H (.ref a) (.list ds)
  | tup {a : Addr} {xs : List V} {ds : List D} : Tp K H a xs → RpAll K Z H xs ds → Rp K Z H (.ref a) (.tuple ds)
  | dct {a : Addr} {o : HO} {kvs : List (D × D)} : Z a → H a = some o → RpDct K Z H o kvs → Rp K Z H (.ref a) (.dict kvs)
inductive RpAll (K : PySem.W.Frag) (Z : Zs) (H : Hp) : List V → List D → Prop
  | nil : RpAll K Z H [] []
  | cons {v : V} {vs : List V} {d : D} {ds : List D} : Rp K Z H v d → RpAll K Z H vs ds → RpAll K Z H (v :: vs) (d :: ds)
inductive RpDct (K : PySem.W.Frag) (Z : Zs) (H : Hp) : HO → List (D × D) → Prop
  | k {ks : List (Key × V)} {kvs : List (D × D)} : kvs.map (·.1) = ks.map (fun p => keyD p.1) → RpAll K Z H (ks.map (·.2)) (kvs.map (·.2)) → RpDct K Z H (.dK ks) kvs
  | t {ks : List (List Key × V)} {kvs : List (D × D)} : kvs.map (·.1) = ks.map (fun p => .tuple (p.1.map keyD)) → RpAll K Z H (ks.map (·.2)) (kvs.map (·.2)) → RpDct K Z H (.dT ks) kvs
end

structure Kp (Z Z' : Zs) (H H' : Hp) : Prop where
  z : ∀ a, Z a → Z' a
  l : ∀ a o, Z a → H a = some o → H' a = some o
  t : ∀ a xs, H a = some (.tup xs) → H' a = some (.tup xs)
  f : ∀ a o u, H a = some (.frz o u) → H' a = some (.frz o u)

section
variable {K : PySem.W.Frag} {Z Z' : Zs} {H H' : Hp}
theorem tp_keep (k : Kp Z Z' H H') {a : Addr} {xs : List V} (h : Tp K H a xs) : Tp K H' a xs := h.elim (fun h => .inl (k.t _ _ h)) .inr
mutual
theorem Rp.keep (k : Kp Z Z' H H') : ∀ {v : V} {d : D}, Rp K Z H v d → Rp K Z' H' v d
  | _, _, .non => .non
  | _, _, .bl b => .bl b
  | _, _, .int i => .int i
  | _, _, .str x => .str x
  | _, _, .lz z h a => .lz (k.z _ z) (k.l _ _ z h) (RpAll.keep k a)
  | _, _, .tup h a => .tup (tp_keep k h) (RpAll.keep k a)
  | _, _, .dct z h a => .dct (k.z _ z) (k.l _ _ z h) (RpDct.keep k a)
theorem RpAll.keep (k : Kp Z Z' H H') : ∀ {vs : List V} {ds : List D}, RpAll K Z H vs ds → RpAll K Z' H' vs ds
  | _, _, .nil => .nil
  | _, _, .cons a b => .cons (Rp.keep k a) (RpAll.keep k b)
theorem RpDct.keep (k : Kp Z Z' H H') : ∀ {o : HO} {kvs : List (D × D)}, RpDct K Z H o kvs → RpDct K Z' H' o kvs
  | _, _, .k e a => .k e (RpAll.keep k a)
  | _, _, .t e a => .t e (RpAll.keep k a)
end
theorem Kp.refl : Kp Z Z H H := ⟨fun _ h => h, fun _ _ _ h => h, fun _ _ h => h, fun _ _ _ h => h⟩
theorem Kp.grow (h : ∀ a, Z a → Z' a) : Kp Z Z' H H := ⟨h, fun _ _ _ h => h, fun _ _ h => h, fun _ _ _ h => h⟩
theorem RpAll.length : ∀ {vs : List V} {ds : List D}, RpAll K Z H vs ds → vs.length = ds.length
  | _, _, .nil => rfl
  | _, _, .cons _ b => by rw [List.length_cons, List.length_cons, RpAll.length b]
theorem RpAll.append : ∀ {vs ws : List V} {ds es : List D}, RpAll K Z H vs ds → RpAll K Z H ws es → RpAll K Z H (vs ++ ws) (ds ++ es)
  | _, _, _, _, .nil, b => b
  | _, _, _, _, .cons a t, b => .cons a (RpAll.append t b)
theorem RpAll.take : ∀ {vs : List V} {ds : List D} (n : Nat), RpAll K Z H vs ds → RpAll K Z H (vs.take n) (ds.take n)
  | _, _, 0, _ => .nil
  | _, _, _ + 1, .nil => .nil
  | _, _, n + 1, .cons a b => .cons a (RpAll.take n b)
theorem RpAll.drop : ∀ {vs : List V} {ds : List D} (n : Nat), RpAll K Z H vs ds → RpAll K Z H (vs.drop n) (ds.drop n)
  | _, _, 0, h => h
  | _, _, _ + 1, .nil => .nil
  | _, _, n + 1, .cons a b => RpAll.drop n b
theorem RpAll.get : ∀ {vs : List V} {ds : List D} (i : Nat) {d : D}, RpAll K Z H vs ds → ds[i]? = some d → ∃ v, vs[i]? = some v ∧ Rp K Z H v d
  | _, _, _, _, .nil, e => by simp at e
  | _, _, 0, _, .cons a _, e => by simp at e; subst e; exact ⟨_, rfl, a⟩
  | _, _, i + 1, _, .cons _ b, e => RpAll.get i b (by simpa using e)
theorem RpAll.getV : ∀ {vs : List V} {ds : List D} (i : Nat) {v : V}, RpAll K Z H vs ds → vs[i]? = some v → ∃ d, ds[i]? = some d ∧ Rp K Z H v d
  | _, _, _, _, .nil, e => by simp at e
  | _, _, 0, _, .cons a _, e => by simp at e; subst e; exact ⟨_, rfl, a⟩
  | _, _, i + 1, _, .cons _ b, e => RpAll.getV i b (by simpa using e)
theorem RpAll.set : ∀ {vs : List V} {ds : List D} (i : Nat) {v : V} {d : D}, RpAll K Z H vs ds → Rp K Z H v d → RpAll K Z H (vs.set i v) (ds.set i d)
  | _, _, _, _, _, .nil, _ => .nil
  | _, _, 0, _, _, .cons a b, q => .cons q b
  | _, _, i + 1, _, _, .cons a b, q => .cons a (RpAll.set i b q)
theorem RpAll.reverse : ∀ {vs : List V} {ds : List D}, RpAll K Z H vs ds → RpAll K Z H vs.reverse ds.reverse
  | _, _, .nil => .nil
  | _, _, .cons a b => by
    rw [List.reverse_cons, List.reverse_cons]
    exact RpAll.append (RpAll.reverse b) (.cons a .nil)
theorem RpAll.dropLast {vs : List V} {ds : List D} (h : RpAll K Z H vs ds) : RpAll K Z H vs.dropLast ds.dropLast := by
  rw [List.dropLast_eq_take, List.dropLast_eq_take, h.length]
  exact h.take _
/-- the ints of a list of ints -/
theorem RpAll.ints : ∀ {vs : List V} {ns : List Int}, RpAll K Z H vs (ns.map PyData.int) → vs = ns.map V.int
  | _, [], h => by cases h; rfl
  | _, n :: ns, h => by
    cases h with
    | cons a b =>
      cases a
      rw [RpAll.ints b]
      rfl
theorem RpAll.bools : ∀ {vs : List V} {ns : List Bool}, RpAll K Z H vs (ns.map PyData.bool) → vs = ns.map V.bl
  | _, [], h => by cases h; rfl
  | _, n :: ns, h => by
    cases h with
    | cons a b =>
      cases a
      rw [RpAll.bools b]
      rfl
theorem RpAll.ofInts : ∀ (ns : List Int), RpAll K Z H (ns.map V.int) (ns.map PyData.int)
  | [] => .nil
  | n :: ns => .cons (.int n) (RpAll.ofInts ns)
/-- data that is a list or a tuple stands so in the abstract heap -/
theorem Rp.list {v : V} {ds : List D} (h : Rp K Z H v (.list ds)) : ∃ a xs, v = .ref a ∧ H a = some (.lst xs) ∧ RpAll K Z H xs ds := by
  cases h with
  | lz z h a => exact ⟨_, _, rfl, h, a⟩
theorem Rp.tuple {v : V} {ds : List D} (h : Rp K Z H v (.tuple ds)) : ∃ a xs, v = .ref a ∧ Tp K H a xs ∧ RpAll K Z H xs ds := by
  cases h with
  | tup h a => exact ⟨_, _, rfl, h, a⟩

mutual
theorem Rp.dp : ∀ {d : D} {v : V}, Rp K Z H v d → d.plain = true → Dp K H v d
  | .none, _, h, _ => by cases h; exact .non
  | .bool b, _, h, _ => by cases h; exact .bl b
  | .int i, _, h, _ => by cases h; exact .int i
  | .str x, _, h, _ => by cases h; exact .str x
  | .list xs, _, h, q => by
    obtain ⟨a, vs, rfl, hs, ha⟩ := Rp.list h
    exact .lst (.inl (.inl hs)) (RpAll.dp ha q)
  | .tuple xs, _, h, q => by
    obtain ⟨a, vs, rfl, hs, ha⟩ := Rp.tuple h
    exact .tup hs.sq (RpAll.dp ha q)
  | .dict kvs, _, h, q => by cases q
theorem RpAll.dp : ∀ {ds : List D} {vs : List V}, RpAll K Z H vs ds → PyData.plainAll ds = true → DpAll K H vs ds
  | [], _, h, _ => by cases h; exact .nil
  | d :: ds, _, h, q => by
    have q : (d.plain && PyData.plainAll ds) = true := q
    rw [Bool.and_eq_true] at q
    cases h with
    | cons a b => exact .cons (Rp.dp a q.1) (RpAll.dp b q.2)
end
end

/-- the script's list: known, or of the written part -/
def ScrAt (K : PySem.W.Frag) (H : Hp) (a : Addr) (ns : List Int) : Prop :=
  (∃ ob, H a = some (.frz ob (.lst (ns.map V.int)))) ∨
    ∃ (o : Obj) (its : Array Value) (n : Nat), K.lookup a = some o ∧ o.cls = .type "list" ∧ o.dict = none ∧ o.data = .seq its n ∧ its.size ≤ sizeLine ∧ Vals (ns.map V.int) its.toList
theorem ScrAt.keep {K : PySem.W.Frag} {Z Z' : Zs} {H H' : Hp} {a : Addr} {ns : List Int} (h : ScrAt K H a ns) (k : Kp Z Z' H H') : ScrAt K H' a ns := h.imp_left fun ⟨ob, e⟩ => ⟨ob, k.f _ _ _ e⟩
theorem ScrAt.sq {K : PySem.W.Frag} {H : Hp} {a : Addr} {ns : List Int} (h : ScrAt K H a ns) : SqL K H a (ns.map V.int) := h.elim (fun ⟨ob, e⟩ => .inl (.inr ⟨ob, e⟩)) .inr

/-! ### slots -/
inductive Co where
  | lst (xs : List D)
  | dct (kvs : List (D × D))
def Co.toD : Co → Option D
  | .lst xs => some (.list xs)
  | .dct kvs => some (.dict kvs)
def CoR (K : PySem.W.Frag) (Z : Zs) (H : Hp) (o : HO) : Co → Prop
  | .lst ds => ∃ vs, o = .lst vs ∧ RpAll K Z H vs ds
  | .dct kvs => RpDct K Z H o kvs
theorem CoR.keep {K : PySem.W.Frag} {Z Z' : Zs} {H H' : Hp} {o : HO} (k : Kp Z Z' H H') : ∀ {c : Co}, CoR K Z H o c → CoR K Z' H' o c
  | .lst _, ⟨vs, e, a⟩ => ⟨vs, e, a.keep k⟩
  | .dct _, h => RpDct.keep k h
theorem CoR.mutable {K : PySem.W.Frag} {Z : Zs} {H : Hp} {o : HO} : ∀ {c : Co}, CoR K Z H o c → (∀ p u, o ≠ .frz p u) ∧ ∀ xs, o ≠ .tup xs
  | .lst _, ⟨vs, e, _⟩ => by subst e; exact ⟨fun _ _ h => (nomatch h), fun _ h => (nomatch h)⟩
  | .dct _, h => by
    have h : RpDct K Z H o _ := h
    cases h <;> exact ⟨fun _ _ h => (nomatch h), fun _ h => (nomatch h)⟩
/-- an owned thing, frozen -/
theorem CoR.rp {K : PySem.W.Frag} {Z : Zs} {H : Hp} {o : HO} {a : Addr} (z : Z a) (h : H a = some o) {c : Co} {x : D} (q : CoR K Z H o c) (e2 : c.toD = some x) : Rp K Z H (.ref a) x := by
  cases c with
  | lst ds =>
    obtain ⟨vs, e, q⟩ := q
    subst e
    cases e2
    exact .lz z h q
  | dct kvs =>
    cases e2
    exact .dct z h q
inductive Md where
  | own | mut | ro
  deriving DecidableEq
inductive Sl where
  | no
  | d (x : D)
  | o (m : Md) (c : Co)
  /-- the script's list -/
  | scr (ns : List Int)
  /-- some object, by its address alone -/
  | e (a : Addr)
abbrev Rho := List Sl
def OwnAt (σ : St) (ρ : Rho) (a : Addr) : Prop := ∃ (i : Nat) (m : Md) (c : Co), ρ[i]? = some (.o m c) ∧ σ[i]? = some (some (.ref a))

structure Rel (K : PySem.W.Frag) (Z : Zs) (σ : St) (H : Hp) (ρ : Rho) : Prop where
  len : ρ.length = σ.length
  d : ∀ (i : Nat) (x : D), ρ[i]? = some (.d x) → ∃ u, σ[i]? = some (some u) ∧ Rp K Z H u x
  o : ∀ (i : Nat) (m : Md) (c : Co), ρ[i]? = some (.o m c) → ∃ a ho, σ[i]? = some (some (.ref a)) ∧ ¬ Z a ∧ H a = some ho ∧ CoR K Z H ho c
  s : ∀ (i : Nat) (ns : List Int), ρ[i]? = some (.scr ns) → ∃ a, σ[i]? = some (some (.ref a)) ∧ ScrAt K H a ns
  e : ∀ (i : Nat) (a : Addr), ρ[i]? = some (.e a) → σ[i]? = some (some (.ref a))
  ap : ∀ (i j : Nat) (m n : Md) (c e : Co) (a : Addr), ρ[i]? = some (.o m c) → ρ[j]? = some (.o n e) → σ[i]? = some (some (.ref a)) → σ[j]? = some (some (.ref a)) → i = j
  zt : ∀ a, Z a → ∃ o, H a = some o
theorem Rel.own {K : PySem.W.Frag} {Z : Zs} {σ : St} {H : Hp} {ρ : Rho} (r : Rel K Z σ H ρ) {a : Addr} (h : OwnAt σ ρ a) : ¬ Z a ∧ ∃ ho, H a = some ho ∧ (∀ p u, ho ≠ .frz p u) ∧ ∀ xs, ho ≠ .tup xs := by
  obtain ⟨i, m, c, h1, h2⟩ := h
  obtain ⟨b, ho, e, nz, hb, q⟩ := r.o i m c h1
  rw [h2] at e
  cases e
  exact ⟨nz, ho, hb, q.mutable⟩

structure Fr (Z : Zs) (σ : St) (ρ : Rho) (H : Hp) (Z' : Zs) (σ' : St) (ρ' : Rho) (H' : Hp) : Prop where
  keep : ∀ b o, H b = some o → ¬ OwnAt σ ρ b → H' b = some o
  zup : ∀ b, Z b → Z' b
  znew : ∀ b o, Z' b → H b = some o → Z b ∨ OwnAt σ ρ b
  own : ∀ b, OwnAt σ' ρ' b → OwnAt σ ρ b ∨ H b = none
  bor : ∀ (i : Nat) (m : Md) (c : Co), ρ[i]? = some (.o m c) → m ≠ .own → σ'[i]? = σ[i]? ∧ ∃ c', ρ'[i]? = some (.o m c') ∧ (m = .ro → c' = c)
  live : ∀ b o, H b = some o → ∃ o', H' b = some o'
section
variable {K : PySem.W.Frag} {Z Z1 Z2 : Zs} {σ σ1 σ2 : St} {H H1 H2 : Hp} {ρ ρ1 ρ2 : Rho}
theorem Fr.refl : Fr Z σ ρ H Z σ ρ H := ⟨fun _ _ h _ => h, fun _ h => h, fun _ _ h _ => .inl h, fun _ h => .inl h, fun i m c h _ => ⟨rfl, c, h, fun _ => rfl⟩, fun _ o h => ⟨o, h⟩⟩
theorem Fr.trans (a : Fr Z σ ρ H Z1 σ1 ρ1 H1) (b : Fr Z1 σ1 ρ1 H1 Z2 σ2 ρ2 H2) : Fr Z σ ρ H Z2 σ2 ρ2 H2 where
  keep x o h n := b.keep x o (a.keep x o h n) fun q => (a.own x q).elim n fun z => by rw [h] at z; cases z
  zup x h := b.zup x (a.zup x h)
  znew x o h e := by
    obtain ⟨o', e'⟩ := a.live x o e
    rcases b.znew x o' h e' with q | q
    · exact a.znew x o q e
    · rcases a.own x q with q | q
      · exact .inr q
      · rw [e] at q; cases q
  own x h := by
    rcases b.own x h with q | q
    · exact a.own x q
    · cases e : H x with
      | none => exact .inr rfl
      | some o =>
        obtain ⟨o', e'⟩ := a.live x o e
        rw [q] at e'; cases e'
  bor i m c h n := by
    obtain ⟨e1, c1, h1, g1⟩ := a.bor i m c h n
    obtain ⟨e2, c2, h2, g2⟩ := b.bor i m c1 h1 n
    exact ⟨e2.trans e1, c2, h2, fun e => (g2 e).trans (g1 e)⟩
  live x o h := by
    obtain ⟨o', e'⟩ := a.live x o h
    exact b.live x o' e'
theorem Fr.kp (a : Fr Z σ ρ H Z1 σ1 ρ1 H1) (r : Rel K Z σ H ρ) : Kp Z Z1 H H1 where
  z := a.zup
  l x o z h := a.keep x o h fun q => (r.own q).1 z
  t x xs h := a.keep x _ h fun q => by
    obtain ⟨_, ho, e, _, n⟩ := r.own q
    rw [h] at e; cases e
    exact n _ rfl
  f x o u h := a.keep x _ h fun q => by
    obtain ⟨_, ho, e, n, _⟩ := r.own q
    rw [h] at e; cases e
    exact n _ _ rfl
theorem Fr.fresh (a : Fr Z σ ρ H Z1 σ1 ρ1 H1) {p : Addr} (h : H1 p = none) : H p = none := by
  cases e : H p with
  | none => rfl
  | some o =>
    obtain ⟨o', e'⟩ := a.live p o e
    rw [h] at e'; cases e'
end

/-! ### what an expression gives -/
inductive Vl where
  | d (x : D)
  | n (c : Co)
  | s (i : Nat)
def VlR (K : PySem.W.Frag) (σ : St) (ρ : Rho) (H0 : Hp) (Z : Zs) (H : Hp) : Vl → V → Prop
  | .d x, u => Rp K Z H u x
  | .n c, u => ∃ a ho, u = .ref a ∧ ¬ Z a ∧ ¬ OwnAt σ ρ a ∧ H0 a = none ∧ H a = some ho ∧ CoR K Z H ho c
  | .s i, u => σ[i]? = some (some u)

inductive Out (α : Type) where
  | st
  | ok (a : α) (ρ : Rho)
  | ex (c : Nat) (ρ : Rho)
def Out.bind {α β : Type} (x : Out α) (k : α → Rho → Out β) : Out β :=
  match x with
  | .st => .st
  | .ok a ρ => k a ρ
  | .ex c ρ => .ex c ρ
/-- what is asked for -/
structure Cy where
  K : PySem.W.Frag
  cv : Nat → Value
  W : WX
def Fits (C : Cy) (Z : Zs) (σ : St) (ρ : Rho) (H : Hp) {α β : Type} (R : Rho → Zs → Hp → α → β → Prop) (r : Out α) (Q : β → Hp → Prop) : Prop :=
  match r with
  | .st => False
  | .ok v ρ' => ∀ u H' Z', Rel C.K Z' σ H' ρ' → Fr Z σ ρ H Z' σ ρ' H' → R ρ' Z' H' v u → Q u H'
  | .ex c ρ' => ∀ H' Z', Rel C.K Z' σ H' ρ' → Fr Z σ ρ H Z' σ ρ' H' → C.W (C.cv c) none σ H'
theorem Fits.bind {C : Cy} {Z : Zs} {σ : St} {ρ : Rho} {H : Hp} {α β γ δ : Type} {R : Rho → Zs → Hp → α → β → Prop} {S S' : Rho → Zs → Hp → γ → δ → Prop} {r : Out α} {k : α → Rho → Out γ} {Q : δ → Hp → Prop} {P : β → Hp → Prop}
    (h : Fits C Z σ ρ H S (r.bind k) Q)
    (hk : ∀ v ρ1 u H1 Z1, r = .ok v ρ1 → Rel C.K Z1 σ H1 ρ1 → Fr Z σ ρ H Z1 σ ρ1 H1 → R ρ1 Z1 H1 v u →
      ((∀ ρ' Z' H' v u, Fr Z1 σ ρ1 H1 Z' σ ρ' H' → S' ρ' Z' H' v u → S ρ' Z' H' v u) → Fits C Z1 σ ρ1 H1 S' (k v ρ1) Q) → P u H1) : Fits C Z σ ρ H R r P := by
  cases r with
  | st => exact h
  | ex c ρ1 => exact h
  | ok v ρ1 =>
    have h : Fits C Z σ ρ H S (k v ρ1) Q := h
    intro u H1 Z1 r1 f1 q1
    refine hk v ρ1 u H1 Z1 rfl r1 f1 q1 fun hS => ?_
    cases e : k v ρ1 with
    | st => rw [e] at h; exact h
    | ex c ρ2 =>
      rw [e] at h
      exact fun H' Z' r2 f2 => h H' Z' r2 (f1.trans f2)
    | ok w ρ2 =>
      rw [e] at h
      exact fun u H' Z' r2 f2 q2 => h u H' Z' r2 (f1.trans f2) (hS _ _ _ _ _ f2 q2)
end EV
set_option maxHeartbeats 400000
namespace EV
open PySem PySem.Spec PyProof.Rows L2

theorem PE.imp {X : Cx} {e : Expr} {t t' : TE} (h : PE X e t) (k : ∀ σ H Q, t' σ H Q → t σ H Q) : PE X e t' := ⟨fun pins s σ H Q I q => h.run pins s σ H Q I (k σ H Q q)⟩
theorem PT.imp {X : Cx} {e : Expr} {t t' : TT} (h : PT X e t) (k : ∀ σ H Q, t' σ H Q → t σ H Q) : PT X e t' := ⟨fun pins s σ H Q I q => h.run pins s σ H Q I (k σ H Q q)⟩
theorem PA.imp {X : Cx} {e : List Expr} {t t' : TA} (h : PA X e t) (k : ∀ σ H Q, t' σ H Q → t σ H Q) : PA X e t' := ⟨fun pos pins s σ H Q I q => h.run pos pins s σ H Q I (k σ H Q q)⟩
theorem PS.imp {X : Cx} {e : Stmt} {t t' : TS} (h : PS X e t) (k : ∀ D σ H, t' D σ H → t D σ H) : PS X e t' := ⟨fun pins s σ H D I q => h.run pins s σ H D I (k D σ H q)⟩
theorem PSs.imp {X : Cx} {e : List Stmt} {t t' : TS} (h : PSs X e t) (k : ∀ D σ H, t' D σ H → t D σ H) : PSs X e t' := ⟨fun pins s σ H D I q => h.run pins s σ H D I (k D σ H q)⟩

/-! ### what is read, at any slot -/
def rd (ρ : Rho) : Vl → Option D
  | .d x => some x
  | .n c => c.toD
  | .s i => match ρ[i]? with
    | some (.d x) => some x
    | some (.o _ c) => c.toD
    | _ => none
/-- read as data: what lies within is frozen -/
def RdV (K : PySem.W.Frag) (Z : Zs) (H : Hp) (u : V) : D → Prop
  | .list ds => ∃ a xs, u = .ref a ∧ H a = some (.lst xs) ∧ RpAll K Z H xs ds
  | .dict kvs => ∃ a o, u = .ref a ∧ H a = some o ∧ RpDct K Z H o kvs
  | x => Rp K Z H u x
section
variable {K : PySem.W.Frag} {Z Z' Z1 : Zs} {σ σ' : St} {H H' H0 H1 : Hp} {ρ ρ' ρ1 : Rho}
theorem Rp.rdv {u : V} : ∀ {x : D}, Rp K Z H u x → RdV K Z H u x
  | .none, h => h
  | .bool _, h => h
  | .int _, h => h
  | .str _, h => h
  | .tuple _, h => h
  | .list _, h => Rp.list h
  | .dict _, h => by cases h with | dct z e q => exact ⟨_, _, rfl, e, q⟩
theorem CoR.rdv {a : Addr} {ho : HO} (e : H a = some ho) {c : Co} {x : D} (q : CoR K Z H ho c) (e3 : c.toD = some x) : RdV K Z H (.ref a) x := by
  cases c with
  | lst ds =>
    obtain ⟨vs, e2, q⟩ := q
    subst e2
    cases e3
    exact ⟨a, vs, rfl, e, q⟩
  | dct kvs =>
    cases e3
    exact ⟨a, ho, rfl, e, q⟩
theorem rd_ok (r : Rel K Z σ H ρ) {v : Vl} {u : V} {x : D} (h : VlR K σ ρ H0 Z H v u) (e : rd ρ v = some x) : RdV K Z H u x := by
  cases v with
  | d y => cases e; exact Rp.rdv h
  | n c =>
    obtain ⟨a, ho, rfl, _, _, _, e2, q⟩ := h
    exact CoR.rdv e2 q e
  | s i =>
    have h : σ[i]? = some (some u) := h
    unfold rd at e
    dsimp only at e
    split at e
    · rename_i y ey
      cases e
      obtain ⟨u', e1, q⟩ := r.d _ _ ey
      rw [h] at e1; cases e1
      exact Rp.rdv q
    · rename_i m c ey
      obtain ⟨a, ho, e1, _, e2, q⟩ := r.o _ _ _ ey
      rw [h] at e1; cases e1
      exact CoR.rdv e2 q e
    · cases e
theorem VlR.keep (r : Rel K Z σ H ρ) (f : Fr Z σ ρ H Z1 σ ρ1 H1) {v : Vl} {u : V} (h : VlR K σ ρ H0 Z H v u) : VlR K σ ρ1 H0 Z1 H1 v u := by
  cases v with
  | d y => exact Rp.keep (f.kp r) h
  | n c =>
    obtain ⟨a, ho, rfl, nz, no, e0, e2, q⟩ := h
    refine ⟨a, ho, rfl, fun z => ?_, fun z => ?_, e0, f.keep _ _ e2 no, q.keep (f.kp r)⟩
    · exact (f.znew _ _ z e2).elim nz no
    · exact (f.own _ z).elim no fun q => by rw [e2] at q; cases q
  | s i => exact h
theorem VlR.start (h0 : ∀ p, H0 p = none → H p = none) {v : Vl} {u : V} (h : VlR K σ ρ H0 Z H1 v u) : VlR K σ ρ H Z H1 v u := by
  cases v with
  | d y => exact h
  | n c =>
    obtain ⟨a, ho, rfl, nz, no, e0, e2, q⟩ := h
    exact ⟨a, ho, rfl, nz, no, h0 _ e0, e2, q⟩
  | s i => exact h
/-- the heap has grown -/
def Ext (H H' : Hp) : Prop := ∀ b o, H b = some o → H' b = some o
theorem Ext.refl : Ext H H := fun _ _ h => h
theorem Ext.new {p : Addr} {o : HO} (h : H p = none) : Ext H (upd H p o) := fun a u e => by rw [upd_ne (ne_of_none e h)]; exact e
theorem Ext.kp (x : Ext H H') : Kp Z Z H H' := ⟨fun _ h => h, fun _ _ _ h => x _ _ h, fun _ _ h => x _ _ h, fun _ _ _ h => x _ _ h⟩
theorem Ext.rel (x : Ext H H') (r : Rel K Z σ H ρ) : Rel K Z σ H' ρ :=
  ⟨r.len, fun i y e => let ⟨u, e1, q⟩ := r.d i y e; ⟨u, e1, q.keep x.kp⟩, fun i m c e => let ⟨a, ho, e1, nz, e2, q⟩ := r.o i m c e; ⟨a, ho, e1, nz, x _ _ e2, q.keep x.kp⟩, fun i ns e => let ⟨a, e1, e2⟩ := r.s i ns e; ⟨a, e1, e2.keep (Z := Z) x.kp⟩, r.e, r.ap, fun a z => let ⟨o, e⟩ := r.zt a z; ⟨o, x _ _ e⟩⟩
theorem Ext.fr (x : Ext H H') : Fr Z σ ρ H Z σ ρ H' :=
  ⟨fun b o h _ => x b o h, fun _ h => h, fun _ _ h _ => .inl h, fun _ h => .inl h, fun i m c h _ => ⟨rfl, c, h, fun _ => rfl⟩, fun b o h => ⟨o, x b o h⟩⟩
/-- what an operation by values gives -/
def ResR (K : PySem.W.Frag) (Z : Zs) (H H' : Hp) : Vl → V → Prop
  | .d z, v => Rp K Z H' v z
  | .n c, v => ∃ a ho, v = .ref a ∧ H a = none ∧ H' a = some ho ∧ CoR K Z H' ho c
  | .s _, _ => False
theorem ResR.vl (r : Rel K Z σ H ρ) {w : Vl} {v : V} (h : ResR K Z H H' w v) : VlR K σ ρ H Z H' w v := by
  cases w with
  | d z => exact h
  | n c =>
    obtain ⟨a, ho, rfl, e0, e1, q⟩ := h
    refine ⟨a, ho, rfl, fun z => ?_, fun z => ?_, e0, e1, q⟩
    · obtain ⟨o, e⟩ := r.zt _ z
      rw [e0] at e; cases e
    · obtain ⟨_, o, e, _⟩ := r.own z
      rw [e0] at e; cases e
  | s i => exact h.elim
end

/-! ### the readings -/
section
variable {X : Cx} {cv : Nat → Value} {W : WX}
abbrev cy (X : Cx) (cv : Nat → Value) (W : WX) : Cy := ⟨X.K, cv, W⟩
def SV (K : PySem.W.Frag) (σ : St) (H : Hp) : Rho → Zs → Hp → Vl → V → Prop := fun ρ' Z' H' v u => VlR K σ ρ' H Z' H' v u
def SB : Rho → Zs → Hp → Bool → Bool → Prop := fun _ _ _ b c => b = c
inductive VlsR (K : PySem.W.Frag) (σ : St) (ρ : Rho) (H0 : Hp) (Z : Zs) (H : Hp) : List Vl → List V → Prop
  | nil : VlsR K σ ρ H0 Z H [] []
  | cons {v vs u us} : VlR K σ ρ H0 Z H v u → VlsR K σ ρ H0 Z H vs us → VlsR K σ ρ H0 Z H (v :: vs) (u :: us)
def SA (K : PySem.W.Frag) (σ : St) (H : Hp) : Rho → Zs → Hp → List Vl → List V → Prop := fun ρ' Z' H' v u => VlsR K σ ρ' H Z' H' v u
def tV (C : Cy) (m : Rho → Out Vl) : TE := fun σ H Q => ∃ Z ρ, Rel C.K Z σ H ρ ∧ Fits C Z σ ρ H (SV C.K σ H) (m ρ) Q
def tT (C : Cy) (m : Rho → Out Bool) : TT := fun σ H Q => ∃ Z ρ, Rel C.K Z σ H ρ ∧ Fits C Z σ ρ H SB (m ρ) Q
def tA (C : Cy) (m : Rho → Out (List Vl)) : TA := fun σ H Q => ∃ Z ρ, Rel C.K Z σ H ρ ∧ Fits C Z σ ρ H (SA C.K σ H) (m ρ) Q
def VE (X : Cx) (cv : Nat → Value) (W : WX) (e : Expr) (m : Rho → Out Vl) : Prop := PE X e (tV (cy X cv W) m)
def VT (X : Cx) (cv : Nat → Value) (W : WX) (e : Expr) (m : Rho → Out Bool) : Prop := PT X e (tT (cy X cv W) m)
def VA (X : Cx) (cv : Nat → Value) (W : WX) (es : List Expr) (m : Rho → Out (List Vl)) : Prop := PA X es (tA (cy X cv W) m)

theorem VlsR.keep {K : PySem.W.Frag} {Z Z1 : Zs} {σ : St} {H H0 H1 : Hp} {ρ ρ1 : Rho} (r : Rel K Z σ H ρ) (f : Fr Z σ ρ H Z1 σ ρ1 H1) : ∀ {v : List Vl} {u : List V}, VlsR K σ ρ H0 Z H v u → VlsR K σ ρ1 H0 Z1 H1 v u
  | _, _, .nil => .nil
  | _, _, .cons a b => .cons (a.keep r f) (VlsR.keep r f b)
theorem VlsR.start {K : PySem.W.Frag} {Z : Zs} {σ : St} {H H0 H1 : Hp} {ρ : Rho} (h0 : ∀ p, H0 p = none → H p = none) : ∀ {v : List Vl} {u : List V}, VlsR K σ ρ H0 Z H1 v u → VlsR K σ ρ H Z H1 v u
  | _, _, .nil => .nil
  | _, _, .cons a b => .cons (a.start h0) (VlsR.start h0 b)

/-- what ends: nothing more is run -/
theorem Fits.ret {C : Cy} {Z : Zs} {σ : St} {ρ : Rho} {H : Hp} {α β : Type} {S : Rho → Zs → Hp → α → β → Prop} {a : α} {u : β} {Q : β → Hp → Prop} (h : Fits C Z σ ρ H S (.ok a ρ) Q) (r : Rel C.K Z σ H ρ) (q : S ρ Z H a u) : Q u H := h u H Z r Fr.refl q
theorem Fits.ext {C : Cy} {Z : Zs} {σ : St} {ρ : Rho} {H H' : Hp} {α β : Type} {S : Rho → Zs → Hp → α → β → Prop} {a : α} {u : β} {Q : β → Hp → Prop} (h : Fits C Z σ ρ H S (.ok a ρ) Q) (r : Rel C.K Z σ H ρ) (x : Ext H H') (q : S ρ Z H' a u) : Q u H' := h u H' Z (x.rel r) x.fr q
/-- a part is run, then the rest -/
theorem tV.bind {C : Cy} {Z : Zs} {σ : St} {ρ : Rho} {H : Hp} {γ δ : Type} {S : Hp → Rho → Zs → Hp → γ → δ → Prop} {ma : Rho → Out Vl} {k : Vl → Rho → Out γ} {Q : δ → Hp → Prop} {P : VK}
    (mono : ∀ H1 H2, (∀ p, H1 p = none → H2 p = none) → ∀ ρ Z H v u, S H1 ρ Z H v u → S H2 ρ Z H v u) (r : Rel C.K Z σ H ρ)
    (h : Fits C Z σ ρ H (S H) ((ma ρ).bind k) Q)
    (hk : ∀ v ρ1 u H1 Z1, Rel C.K Z1 σ H1 ρ1 → Fr Z σ ρ H Z1 σ ρ1 H1 → VlR C.K σ ρ1 H Z1 H1 v u → Fits C Z1 σ ρ1 H1 (S H1) (k v ρ1) Q → P u H1) : tV C ma σ H P :=
  ⟨Z, ρ, r, Fits.bind (S' := fun ρ' Z' H' v u => ∃ H1, (∀ p, H1 p = none → H p = none) ∧ S H1 ρ' Z' H' v u) h fun v ρ1 u H1 Z1 _ r1 f1 q1 hq => hk v ρ1 u H1 Z1 r1 f1 q1 (by
    have h2 := hq fun ρ' Z' H' v u _ ⟨H1, a, b⟩ => mono H1 H a _ _ _ _ _ b
    cases e : k v ρ1 with
    | st => rw [e] at h2; exact h2
    | ex c ρ2 => rw [e] at h2; exact h2
    | ok w ρ2 =>
      rw [e] at h2
      exact fun u H' Z' r2 f2 q2 => h2 u H' Z' r2 f2 ⟨H1, fun p e => f1.fresh e, q2⟩)⟩
theorem tT.bind {C : Cy} {Z : Zs} {σ : St} {ρ : Rho} {H : Hp} {γ δ : Type} {S : Hp → Rho → Zs → Hp → γ → δ → Prop} {ma : Rho → Out Bool} {k : Bool → Rho → Out γ} {Q : δ → Hp → Prop} {P : Bool → Hp → Prop}
    (mono : ∀ H1 H2, (∀ p, H1 p = none → H2 p = none) → ∀ ρ Z H v u, S H1 ρ Z H v u → S H2 ρ Z H v u) (r : Rel C.K Z σ H ρ)
    (h : Fits C Z σ ρ H (S H) ((ma ρ).bind k) Q)
    (hk : ∀ v ρ1 H1 Z1, Rel C.K Z1 σ H1 ρ1 → Fr Z σ ρ H Z1 σ ρ1 H1 → Fits C Z1 σ ρ1 H1 (S H1) (k v ρ1) Q → P v H1) : tT C ma σ H P :=
  ⟨Z, ρ, r, Fits.bind (S' := fun ρ' Z' H' v u => ∃ H1, (∀ p, H1 p = none → H p = none) ∧ S H1 ρ' Z' H' v u) h fun v ρ1 u H1 Z1 _ r1 f1 q1 hq => by
    cases q1
    refine hk v ρ1 H1 Z1 r1 f1 ?_
    have h2 := hq fun ρ' Z' H' v u _ ⟨H1, a, b⟩ => mono H1 H a _ _ _ _ _ b
    cases e : k v ρ1 with
    | st => rw [e] at h2; exact h2
    | ex c ρ2 => rw [e] at h2; exact h2
    | ok w ρ2 =>
      rw [e] at h2
      exact fun u H' Z' r2 f2 q2 => h2 u H' Z' r2 f2 ⟨H1, fun p e => f1.fresh e, q2⟩⟩
theorem tA.bind {C : Cy} {Z : Zs} {σ : St} {ρ : Rho} {H : Hp} {γ δ : Type} {S : Hp → Rho → Zs → Hp → γ → δ → Prop} {ma : Rho → Out (List Vl)} {k : List Vl → Rho → Out γ} {Q : δ → Hp → Prop} {P : List V → Hp → Prop}
    (mono : ∀ H1 H2, (∀ p, H1 p = none → H2 p = none) → ∀ ρ Z H v u, S H1 ρ Z H v u → S H2 ρ Z H v u) (r : Rel C.K Z σ H ρ)
    (h : Fits C Z σ ρ H (S H) ((ma ρ).bind k) Q)
    (hk : ∀ v ρ1 u H1 Z1, Rel C.K Z1 σ H1 ρ1 → Fr Z σ ρ H Z1 σ ρ1 H1 → VlsR C.K σ ρ1 H Z1 H1 v u → Fits C Z1 σ ρ1 H1 (S H1) (k v ρ1) Q → P u H1) : tA C ma σ H P :=
  ⟨Z, ρ, r, Fits.bind (S' := fun ρ' Z' H' v u => ∃ H1, (∀ p, H1 p = none → H p = none) ∧ S H1 ρ' Z' H' v u) h fun v ρ1 u H1 Z1 _ r1 f1 q1 hq => hk v ρ1 u H1 Z1 r1 f1 q1 (by
    have h2 := hq fun ρ' Z' H' v u _ ⟨H1, a, b⟩ => mono H1 H a _ _ _ _ _ b
    cases e : k v ρ1 with
    | st => rw [e] at h2; exact h2
    | ex c ρ2 => rw [e] at h2; exact h2
    | ok w ρ2 =>
      rw [e] at h2
      exact fun u H' Z' r2 f2 q2 => h2 u H' Z' r2 f2 ⟨H1, fun p e => f1.fresh e, q2⟩)⟩
theorem monoV {K : PySem.W.Frag} {σ : St} : ∀ H1 H2 : Hp, (∀ p, H1 p = none → H2 p = none) → ∀ ρ Z H v u, SV K σ H1 ρ Z H v u → SV K σ H2 ρ Z H v u := fun _ _ h _ _ _ _ _ q => VlR.start h q
theorem monoB : ∀ H1 H2 : Hp, (∀ p, H1 p = none → H2 p = none) → ∀ ρ Z H v u, (fun _ : Hp => SB) H1 ρ Z H v u → (fun _ : Hp => SB) H2 ρ Z H v u := fun _ _ _ _ _ _ _ _ q => q
theorem monoA {K : PySem.W.Frag} {σ : St} : ∀ H1 H2 : Hp, (∀ p, H1 p = none → H2 p = none) → ∀ ρ Z H v u, SA K σ H1 ρ Z H v u → SA K σ H2 ρ Z H v u := fun _ _ h _ _ _ _ _ q => VlsR.start h q

/-! ### names, constants -/
def mVar (i : Nat) (ρ : Rho) : Out Vl :=
  match ρ[i]? with
  | some (.d x) => .ok (.d x) ρ
  | some (.o _ _) => .ok (.s i) ρ
  | some (.scr _) => .ok (.s i) ρ
  | _ => .st
theorem ve_var {i : Nat} {x : Str} {pos : Pos} (hN : X.N[i]? = some x) (hv : Vis X.env.scope x) (hd : (x == ("__debug__" : Str)) = false := by decide) (hcd : (x == ("__classdict__" : Str)) = false := by decide) : VE X cv W (.Name x pos) (mVar i) :=
  PE.imp (pe_var hN hv hd hcd) fun σ H Q ⟨Z, ρ, r, h⟩ => by
    unfold mVar at h
    split at h
    · rename_i y e
      obtain ⟨u, e1, q⟩ := r.d _ _ e
      exact ⟨u, e1, h.ret r q⟩
    · rename_i m c e
      obtain ⟨a, ho, e1, _⟩ := r.o _ _ _ e
      exact ⟨.ref a, e1, h.ret r e1⟩
    · rename_i ns e
      obtain ⟨a, e1, _⟩ := r.s _ _ e
      exact ⟨.ref a, e1, h.ret r e1⟩
    · exact h.elim
def mC (x : D) (ρ : Rho) : Out Vl := .ok (.d x) ρ
theorem ve_c {e : Expr} {v : V} {x : D} (h : PE X e (tC v)) (hr : ∀ Z H, Rp X.K Z H v x) : VE X cv W e (mC x) :=
  PE.imp h fun σ H Q ⟨Z, ρ, r, q⟩ => q.ret r (hr _ _)
theorem ve_int {i j pos} : VE X cv W (.Constant (.int i) j pos) (mC (.int i)) := ve_c pe_int fun _ _ => .int _
theorem ve_bl {i j pos} : VE X cv W (.Constant (.bool i) j pos) (mC (.bool i)) := ve_c pe_bl fun _ _ => .bl _
theorem ve_non {j pos} : VE X cv W (.Constant .none j pos) (mC .none) := ve_c pe_non fun _ _ => .non
theorem ve_str {i j pos} : VE X cv W (.Constant (.str i) j pos) (mC (.str i)) := ve_c pe_str fun _ _ => .str _
theorem ve_globI {x : Str} {i : Int} {t : Tok} {pos : Pos} (hg : Gl X x) (hm : X.mg x = some (.int i t)) (hd : (x == ("__debug__" : Str)) = false := by decide) : VE X cv W (.Name x pos) (mC (.int i)) :=
  ve_c (pe_glob (v := .int i) hg hm ⟨_, rfl⟩ hd) fun _ _ => .int _

/-! ### operations by values -/
def BinOk (X : Cx) (f : Value → Value → Sem Value) (g : D → D → Option Vl) : Prop :=
  ∃ rr : R2, OpR X f rr ∧ ∀ (Z : Zs) (H : Hp) (u w : V) (x y : D) (r : Vl) (Q : VK), RdV X.K Z H u x → RdV X.K Z H w y → g x y = some r → (∀ v H', Ext H H' → ResR X.K Z H H' r v → Q v H') → rr u w H Q
def oOf {α : Type} (o : Option α) (ρ : Rho) : Out α :=
  match o with
  | some r => .ok r ρ
  | none => .st
def mBin (g : D → D → Option Vl) (ma mb : Rho → Out Vl) (ρ : Rho) : Out Vl :=
  (ma ρ).bind fun x ρ1 => (mb ρ1).bind fun y ρ2 => oOf ((rd ρ2 x).bind fun dx => (rd ρ2 y).bind fun dy => g dx dy) ρ2
theorem bin_core {rr : R2} {g : D → D → Option Vl} {ma mb : Rho → Out Vl}
    (hg : ∀ (Z : Zs) (H : Hp) (u w : V) (x y : D) (r : Vl) (Q : VK), RdV X.K Z H u x → RdV X.K Z H w y → g x y = some r → (∀ v H', Ext H H' → ResR X.K Z H H' r v → Q v H') → rr u w H Q) {σ : St} {H : Hp} {Q : VK}
    (h : tV (cy X cv W) (mBin g ma mb) σ H Q) : tOp rr (tV (cy X cv W) ma) (tV (cy X cv W) mb) σ H Q := by
  obtain ⟨Z, ρ, r, h⟩ := h
  refine tV.bind (S := SV X.K σ) monoV r h fun v ρ1 u H1 Z1 r1 f1 q1 h1 => ?_
  refine tV.bind (S := SV X.K σ) monoV r1 h1 fun w ρ2 z H2 Z2 r2 f2 q2 h2 => ?_
  have q1' := q1.keep r1 f2
  cases e1 : rd ρ2 v with
  | none => rw [e1] at h2; exact h2.elim
  | some dx =>
    cases e2 : rd ρ2 w with
    | none => rw [e1, e2] at h2; exact h2.elim
    | some dy =>
      rw [e1, e2] at h2
      cases e3 : g dx dy with
      | none =>
        have h2 : Fits _ _ _ _ _ _ (oOf (g dx dy) ρ2) Q := h2
        rw [e3] at h2; exact h2.elim
      | some t =>
        have h2 : Fits _ _ _ _ _ _ (oOf (g dx dy) ρ2) Q := h2
        rw [e3] at h2
        exact hg Z2 H2 u z dx dy t Q (rd_ok r2 q1' e1) (rd_ok r2 q2 e2) e3 fun v H' x q => h2.ext r2 x (q.vl r2)
theorem ve_bin {op : Operator} {a b : Expr} {pos : Pos} {g : D → D → Option Vl} {ma mb : Rho → Out Vl} (ho : BinOk X (binaryOp op) g) (ha : VE X cv W a ma) (hb : VE X cv W b mb) : VE X cv W (.BinOp a op b pos) (mBin g ma mb) := by
  obtain ⟨rr, h1, h2⟩ := ho
  exact PE.imp (pe_op h1 ha hb) fun σ H Q h => bin_core h2 h
theorem ve_cmp {op : CmpOp} {a b : Expr} {pos : Pos} {g : D → D → Option Vl} {ma mb : Rho → Out Vl} (ho : BinOk X (compareOp op) g) (ha : VE X cv W a ma) (hb : VE X cv W b mb) (hm : behindInMarks op b = false) : VE X cv W (.Compare a [op] [b] pos) (mBin g ma mb) := by
  obtain ⟨rr, h1, h2⟩ := ho
  exact PE.imp (pe_cmpR h1 ha hb hm) fun σ H Q h => bin_core h2 h
/-- as a test: the value is a bool -/
def asB (r : Option Vl) : Option Bool :=
  match r with
  | some (.d (.bool b)) => some b
  | _ => none
def mTst (m : Rho → Out Vl) (ρ : Rho) : Out Bool := (m ρ).bind fun v ρ1 => oOf (asB (some v)) ρ1
theorem tst_core {m : Rho → Out Vl} {σ : St} {H : Hp} {Q : Bool → Hp → Prop} (h : tT (cy X cv W) (mTst m) σ H Q) : tTest (tV (cy X cv W) m) σ H Q := by
  obtain ⟨Z, ρ, r, h⟩ := h
  refine tV.bind (S := fun _ => SB) monoB r h fun v ρ1 u H1 Z1 r1 f1 q1 h1 => ?_
  unfold asB oOf at h1
  split at h1
  · rename_i b e
    split at e
    · rename_i b' e2
      cases e; cases e2
      cases q1
      exact ⟨b, rfl, h1.ret r1 rfl⟩
    · cases e
  · exact h1.elim
theorem vt_cmp {op : CmpOp} {a b : Expr} {pos : Pos} {g : D → D → Option Vl} {ma mb : Rho → Out Vl} (ho : BinOk X (compareOp op) g) (ha : VE X cv W a ma) (hb : VE X cv W b mb) (hm : behindInMarks op b = false) : VT X cv W (.Compare a [op] [b] pos) (mTst (mBin g ma mb)) := by
  obtain ⟨rr, h1, h2⟩ := ho
  exact PT.imp (pt_cmpR h1 ha hb hm) fun σ H Q h => by
    have h := tst_core h
    exact bin_core h2 (Q := fun x H' => ∃ k, x = .bl k ∧ Q k H') h
end
end EV
set_option maxHeartbeats 400000
namespace EV
open PySem PySem.Spec PyProof.Rows L2

/-! ### sizes -/
def bigN : Nat := 2097152
def Bg (i : Int) : Prop := i.natAbs < 2 ^ bigN
def Dv (j : Int) : Prop := 0 < j ∧ j.natAbs.log2 < 9000
noncomputable instance (i : Int) : Decidable (Bg i) := Classical.propDecidable _
noncomputable instance (i : Int) : Decidable (Dv i) := Classical.propDecidable _
theorem Bg.of {i : Int} (n : Nat) (h : i.natAbs < 2 ^ n) (hn : n ≤ bigN) : Bg i := Nat.lt_of_lt_of_le h (Nat.pow_le_pow_right (by decide) hn)
theorem Bg.of64 {i : Int} (h1 : -(2 ^ 64) < i) (h2 : i < 2 ^ 64) : Bg i := Bg.of 64 (by omega) (by unfold bigN; decide)
theorem Bg.bits {i : Int} (h : Bg i) : Builtin.Int.intBits i ≤ bigN := PyProof.Rows.intBits_le h
theorem Dv.of64 {j : Int} (h1 : 0 < j) (h2 : j < 2 ^ 64) : Dv j := ⟨h1, by
  have : j.natAbs.log2 < 64 := by
    rw [Nat.log2_lt (by omega)]
    omega
  omega⟩
theorem bigN_val : bigN = 2097152 := rfl

section
variable {X : Cx}
theorem bin_int {f : Value → Value → Sem Value} {Cd : Int → Int → Prop} {gi : Int → Int → V} (ho : OpR X f (rI Cd gi)) (g : D → D → Option Vl)
    (hg : ∀ x y r, g x y = some r → ∃ i j z, x = .int i ∧ y = .int j ∧ r = .d z ∧ Cd i j ∧ ∀ Z H, Rp X.K Z H (gi i j) z) : BinOk X f g :=
  ⟨_, ho, fun Z H u w x y r Q hx hy e k => by
    obtain ⟨i, j, z, rfl, rfl, rfl, hc, hr⟩ := hg x y r e
    cases hx
    cases hy
    exact ⟨i, j, rfl, rfl, hc, k _ _ Ext.refl (hr _ _)⟩⟩
theorem rI0_rI {f : Value → Value → Sem Value} {gi : Int → Int → V} (ho : OpR X f (rI0 gi)) : OpR X f (rI (fun _ _ => True) gi) := fun pins s σ H x y v u Q I rx ry ⟨i, j, e1, e2, _, q⟩ => ho pins s σ H x y v u Q I rx ry ⟨i, j, e1, e2, q⟩

def gSub : D → D → Option Vl
  | .int i, .int j => some (.d (.int (i - j)))
  | _, _ => none
noncomputable def gFdiv : D → D → Option Vl
  | .int i, .int j => if Dv j then some (.d (.int (i / j))) else none
  | _, _ => none
def gMod : D → D → Option Vl
  | .int i, .int j => if 0 < j then some (.d (.int (i % j))) else none
  | _, _ => none
noncomputable def gShl : D → D → Option Vl
  | .int i, .int j => if 0 ≤ j ∧ j ≤ 2097152 ∧ Bg i then some (.d (.int (i * 2 ^ j.toNat))) else none
  | _, _ => none
def gShr : D → D → Option Vl
  | .int i, .int j => if 0 ≤ j then some (.d (.int (i / 2 ^ j.toNat))) else none
  | _, _ => none
def gXor : D → D → Option Vl
  | .int i, .int j => if 0 ≤ i ∧ 0 ≤ j then some (.d (.int ((i.toNat ^^^ j.toNat : Nat) : Int))) else none
  | _, _ => none
def gAnd : D → D → Option Vl
  | .int i, .int j => if 0 ≤ i ∧ 0 ≤ j then some (.d (.int ((i.toNat &&& j.toNat : Nat) : Int))) else none
  | _, _ => none
def gOr : D → D → Option Vl
  | .int i, .int j => if 0 ≤ i ∧ 0 ≤ j then some (.d (.int ((i.toNat ||| j.toNat : Nat) : Int))) else none
  | _, _ => none
def gPow : D → D → Option Vl
  | .int i, .int j => if 0 ≤ j ∧ j ≤ 1000000 ∧ i.natAbs < 2 ^ 64 then some (.d (.int (i ^ j.toNat))) else none
  | _, _ => none
noncomputable def gMul : D → D → Option Vl
  | .int i, .int j => if Bg i ∧ Bg j then some (.d (.int (i * j))) else none
  | .list xs, .int j => if 0 ≤ j ∧ j < 2 ^ 62 ∧ xs.length * j.toNat ≤ sizeLine then some (.n (.lst (List.replicate j.toNat xs).flatten)) else none
  | _, _ => none
def gAdd : D → D → Option Vl
  | .int i, .int j => some (.d (.int (i + j)))
  | .str a, .str b => if a.length + b.length ≤ sizeLine then some (.d (.str (a ++ b))) else none
  | .list xs, .list ys => if xs.length + ys.length ≤ sizeLine then some (.n (.lst (xs ++ ys))) else none
  | .tuple xs, .tuple ys => if xs.length + ys.length ≤ sizeLine then some (.d (.tuple (xs ++ ys))) else none
  | _, _ => none
theorem or_split (a : Nat) : ∀ b : Nat, a ||| b = (a ^^^ b) + (a &&& b) := by
  induction a using Nat.div2Induction with
  | ind a ih =>
    intro b
    by_cases h : a = 0
    · subst h; simp
    · have i := ih (by omega) (b / 2)
      have e1 : (a ||| b) % 2 = a % 2 ||| b % 2 := Nat.or_mod_two_pow (n := 1)
      have e2 : (a ^^^ b) % 2 = a % 2 ^^^ b % 2 := Nat.xor_mod_two_pow (n := 1)
      have e3 : (a &&& b) % 2 = a % 2 &&& b % 2 := Nat.and_mod_two_pow (n := 1)
      have d1 : (a ||| b) / 2 = a / 2 ||| b / 2 := Nat.or_div_two
      have d2 : (a ^^^ b) / 2 = a / 2 ^^^ b / 2 := Nat.xor_div_two
      have d3 : (a &&& b) / 2 = a / 2 &&& b / 2 := Nat.and_div_two
      have m1 := Nat.div_add_mod (a ||| b) 2
      have m2 := Nat.div_add_mod (a ^^^ b) 2
      have m3 := Nat.div_add_mod (a &&& b) 2
      rw [d1, e1] at m1
      rw [d2, e2] at m2
      rw [d3, e3] at m3
      rcases Nat.mod_two_eq_zero_or_one a with ha | ha <;> rcases Nat.mod_two_eq_zero_or_one b with hb | hb <;> rw [ha, hb] at m1 m2 m3 <;> simp at m1 m2 m3 <;> omega
theorem and_nn {i j : Int} (h1 : 0 ≤ i) (h2 : 0 ≤ j) : Builtin.bitAnd i j = ((i.toNat &&& j.toNat : Nat) : Int) := by
  simp [Builtin.bitAnd, h1, h2]
theorem xor_nn {i j : Int} (h1 : 0 ≤ i) (h2 : 0 ≤ j) : Builtin.bitXor i j = ((i.toNat ^^^ j.toNat : Nat) : Int) := by
  have e : Builtin.bitXor i j = Builtin.bitOr i j - Builtin.bitAnd i j := rfl
  rw [e, bitOr_nn h1 h2, and_nn h1 h2]
  have := or_split i.toNat j.toNat
  omega

theorem ok_sub : BinOk X (binaryOp .Sub) gSub := bin_int (rI0_rI op_sub) _ fun x y r e => by
  unfold gSub at e
  split at e
  · cases e; exact ⟨_, _, _, rfl, rfl, rfl, trivial, fun _ _ => .int _⟩
  · cases e
theorem iok_sub : BinOk X (inplaceOp .Sub) gSub := bin_int (rI0_rI iop_sub) _ fun x y r e => by
  unfold gSub at e
  split at e
  · cases e; exact ⟨_, _, _, rfl, rfl, rfl, trivial, fun _ _ => .int _⟩
  · cases e
theorem ok_fdiv : BinOk X (binaryOp .FloorDiv) gFdiv := bin_int op_fdivW _ fun x y r e => by
  unfold gFdiv at e
  split at e
  · split at e
    · rename_i h; cases e; exact ⟨_, _, _, rfl, rfl, rfl, h, fun _ _ => .int _⟩
    · cases e
  · cases e
theorem iok_fdiv : BinOk X (inplaceOp .FloorDiv) gFdiv := bin_int iop_fdivW _ fun x y r e => by
  unfold gFdiv at e
  split at e
  · split at e
    · rename_i h; cases e; exact ⟨_, _, _, rfl, rfl, rfl, h, fun _ _ => .int _⟩
    · cases e
  · cases e
theorem ok_mod : BinOk X (binaryOp .Mod) gMod := bin_int op_mod _ fun x y r e => by
  unfold gMod at e
  split at e
  · split at e
    · rename_i h; cases e; exact ⟨_, _, _, rfl, rfl, rfl, h, fun _ _ => .int _⟩
    · cases e
  · cases e
theorem iok_mod : BinOk X (inplaceOp .Mod) gMod := bin_int iop_mod _ fun x y r e => by
  unfold gMod at e
  split at e
  · split at e
    · rename_i h; cases e; exact ⟨_, _, _, rfl, rfl, rfl, h, fun _ _ => .int _⟩
    · cases e
  · cases e
theorem shl_ok {i j : Int} (h : 0 ≤ j ∧ j ≤ 2097152 ∧ Bg i) : CShl i j := by
  have := h.2.2.bits
  rw [bigN_val] at this
  refine ⟨h.1, ?_⟩
  have h2 := h.2.1
  omega
theorem ok_shl : BinOk X (binaryOp .LShift) gShl := bin_int op_shlW _ fun x y r e => by
  unfold gShl at e
  split at e
  · split at e
    · rename_i h; cases e; exact ⟨_, _, _, rfl, rfl, rfl, shl_ok h, fun _ _ => .int _⟩
    · cases e
  · cases e
theorem iok_shl : BinOk X (inplaceOp .LShift) gShl := bin_int iop_shlW _ fun x y r e => by
  unfold gShl at e
  split at e
  · split at e
    · rename_i h; cases e; exact ⟨_, _, _, rfl, rfl, rfl, shl_ok h, fun _ _ => .int _⟩
    · cases e
  · cases e
theorem ok_shr : BinOk X (binaryOp .RShift) gShr := bin_int op_shr _ fun x y r e => by
  unfold gShr at e
  split at e
  · split at e
    · rename_i h; cases e; exact ⟨_, _, _, rfl, rfl, rfl, h, fun _ _ => .int _⟩
    · cases e
  · cases e
theorem iok_shr : BinOk X (inplaceOp .RShift) gShr := bin_int iop_shr _ fun x y r e => by
  unfold gShr at e
  split at e
  · split at e
    · rename_i h; cases e; exact ⟨_, _, _, rfl, rfl, rfl, h, fun _ _ => .int _⟩
    · cases e
  · cases e
theorem ok_xor : BinOk X (binaryOp .BitXor) gXor := bin_int (rI0_rI op_xor) _ fun x y r e => by
  unfold gXor at e
  split at e
  · split at e
    · rename_i h; cases e; exact ⟨_, _, _, rfl, rfl, rfl, trivial, fun _ _ => by rw [xor_nn h.1 h.2]; exact .int _⟩
    · cases e
  · cases e
theorem iok_xor : BinOk X (inplaceOp .BitXor) gXor := bin_int (rI0_rI iop_xor) _ fun x y r e => by
  unfold gXor at e
  split at e
  · split at e
    · rename_i h; cases e; exact ⟨_, _, _, rfl, rfl, rfl, trivial, fun _ _ => by rw [xor_nn h.1 h.2]; exact .int _⟩
    · cases e
  · cases e
theorem ok_and : BinOk X (binaryOp .BitAnd) gAnd := bin_int (rI0_rI op_and) _ fun x y r e => by
  unfold gAnd at e
  split at e
  · split at e
    · rename_i h; cases e; exact ⟨_, _, _, rfl, rfl, rfl, trivial, fun _ _ => by rw [and_nn h.1 h.2]; exact .int _⟩
    · cases e
  · cases e
theorem iok_and : BinOk X (inplaceOp .BitAnd) gAnd := bin_int (rI0_rI iop_and) _ fun x y r e => by
  unfold gAnd at e
  split at e
  · split at e
    · rename_i h; cases e; exact ⟨_, _, _, rfl, rfl, rfl, trivial, fun _ _ => by rw [and_nn h.1 h.2]; exact .int _⟩
    · cases e
  · cases e
theorem ok_or : BinOk X (binaryOp .BitOr) gOr := bin_int (rI0_rI op_or) _ fun x y r e => by
  unfold gOr at e
  split at e
  · split at e
    · rename_i h; cases e; exact ⟨_, _, _, rfl, rfl, rfl, trivial, fun _ _ => by rw [bitOr_nn h.1 h.2]; exact .int _⟩
    · cases e
  · cases e
theorem iok_or : BinOk X (inplaceOp .BitOr) gOr := bin_int (rI0_rI iop_or) _ fun x y r e => by
  unfold gOr at e
  split at e
  · split at e
    · rename_i h; cases e; exact ⟨_, _, _, rfl, rfl, rfl, trivial, fun _ _ => by rw [bitOr_nn h.1 h.2]; exact .int _⟩
    · cases e
  · cases e
theorem ok_pow : BinOk X (binaryOp .Pow) gPow := bin_int op_pow _ fun x y r e => by
  unfold gPow at e
  split at e
  · split at e
    · rename_i h; cases e; exact ⟨_, _, _, rfl, rfl, rfl, h, fun _ _ => .int _⟩
    · cases e
  · cases e
theorem mul_ok {i j : Int} (h : Bg i ∧ Bg j) : CMulX i j := by
  have h1 := h.1.bits
  have h2 := h.2.bits
  rw [bigN_val] at h1 h2
  unfold CMulX
  omega
theorem ok_mul : BinOk X (binaryOp .Mult) gMul := ⟨_, OpR.or op_mulX op_rep, fun Z H u w x y r Q hx hy e k => by
  unfold gMul at e
  split at e
  · split at e
    · rename_i h
      cases e
      cases hx
      cases hy
      exact .inl ⟨_, _, rfl, rfl, mul_ok h, k _ _ Ext.refl (.int _)⟩
    · cases e
  · split at e
    · rename_i h
      cases e
      obtain ⟨a, vs, rfl, h1, h2⟩ := hx
      cases hy
      have hl := h2.length
      refine .inr ⟨a, _, vs, rfl, rfl, h1, by omega, by omega, by rw [hl]; exact h.2.2, fun p np => k _ _ (Ext.new np) ⟨p, _, rfl, np, upd_same, _, rfl, ?_⟩⟩
      clear k h hl
      rename_i xs j
      generalize j.toNat = n
      refine RpAll.keep (Ext.new np).kp ?_
      induction n with
      | zero => exact .nil
      | succ n ih =>
        rw [List.replicate_succ, List.replicate_succ, List.flatten_cons, List.flatten_cons]
        exact RpAll.append h2 ih
    · cases e
  · cases e⟩
theorem tup_or {K : PySem.W.Frag} {Z : Zs} {H : Hp} {p : Addr} {vs : List V} {xs : List D} (np : H p = none) (h : RpAll K Z H vs xs) : Rp K Z (upd H p (.tup vs)) (.ref p) (.tuple xs) := .tup (.inl upd_same) (h.keep (Ext.new np).kp)
theorem add_core {Z : Zs} {H : Hp} {u w : V} {x y : D} {r : Vl} {Q : VK} (hx : RdV X.K Z H u x) (hy : RdV X.K Z H w y) (e : gAdd x y = some r) (k : ∀ v H', Ext H H' → ResR X.K Z H H' r v → Q v H') :
    (∃ i j, u = .int i ∧ w = .int j ∧ Q (.int (i + j)) H) ∨ (∃ i j, u = .str i ∧ w = .str j ∧ i.length + j.length ≤ sizeLine ∧ Q (.str (i ++ j)) H) ∨ rCat u w H Q ∨ rCatA X.K u w H Q := by
  unfold gAdd at e
  split at e
  · cases e
    cases hx
    cases hy
    exact .inl ⟨_, _, rfl, rfl, k _ _ Ext.refl (.int _)⟩
  · split at e
    · rename_i h
      cases e
      cases hx
      cases hy
      exact .inr (.inl ⟨_, _, rfl, rfl, h, k _ _ Ext.refl (.str _)⟩)
    · cases e
  · split at e
    · rename_i h
      cases e
      obtain ⟨a, vs, rfl, h1, h2⟩ := hx
      obtain ⟨b, ws, rfl, h3, h4⟩ := hy
      exact .inr (.inr (.inl ⟨a, b, vs, ws, rfl, rfl, h1, h3, by rw [h2.length, h4.length]; exact h, fun p np => k _ _ (Ext.new np) ⟨p, _, rfl, np, upd_same, _, rfl, (h2.append h4).keep (Ext.new np).kp⟩⟩))
    · cases e
  · split at e
    · rename_i h
      cases e
      obtain ⟨a, vs, rfl, h1, h2⟩ := Rp.tuple hx
      obtain ⟨b, ws, rfl, h3, h4⟩ := Rp.tuple hy
      refine .inr (.inr (.inr ⟨a, b, vs, ws, rfl, rfl, h1.sq, h3.sq, by rw [h2.length, h4.length]; exact h, fun e => ?_, fun _ e => ?_, fun _ _ p np => k _ _ (Ext.new np) (tup_or np (h2.append h4))⟩))
      · subst e
        cases h2
        exact k _ _ Ext.refl hy
      · subst e
        cases h4
        rw [List.append_nil] at k
        exact k _ _ Ext.refl hx
    · cases e
  · cases e
theorem ok_add : BinOk X (binaryOp .Add) gAdd := ⟨_, OpR.or op_add (OpR.or op_add_str (OpR.or op_cat op_catA)), fun Z H u w x y r Q hx hy e k => add_core hx hy e k⟩
end
end EV
set_option maxHeartbeats 400000
namespace EV
open PySem PySem.Spec PyProof.Rows L2
section
variable {X : Cx} {cv : Nat → Value} {W : WX}
theorem RdV.dp {K : PySem.W.Frag} {Z : Zs} {H : Hp} {u : V} : ∀ {x : D}, RdV K Z H u x → x.plain = true → Dp K H u x
  | .none, h, p => Rp.dp h p
  | .bool _, h, p => Rp.dp h p
  | .int _, h, p => Rp.dp h p
  | .str _, h, p => Rp.dp h p
  | .tuple _, h, p => Rp.dp h p
  | .list _, ⟨a, xs, e, h, q⟩, p => by subst e; exact .lst (.inl (.inl h)) (RpAll.dp q p)
  | .dict _, _, p => by cases p

/-! ### == and in, over data -/
def eqOk (x y : D) : Bool := x.plain && y.plain && decide (min x.depth y.depth ≤ 60)
def gEq : D → D → Option Vl
  | .int a, .int b => some (.d (.bool (decide (a = b))))
  | .str a, .str b => some (.d (.bool (decide (a = b))))
  | x, y => if eqOk x y then some (.d (.bool (x.eqv y))) else none
def gNe : D → D → Option Vl
  | .int a, .int b => some (.d (.bool (!decide (a = b))))
  | .str a, .str b => some (.d (.bool (!decide (a = b))))
  | x, y => if eqOk x y then some (.d (.bool (!x.eqv y))) else none
def rEqP (K : PySem.W.Frag) : R2 := fun u w H Q => ∃ x y, Dp K H u x ∧ Dp K H w y ∧ eqOk x y = true ∧ Q (.bl (x.eqv y)) H
def rNeP (K : PySem.W.Frag) : R2 := fun u w H Q => ∃ x y, Dp K H u x ∧ Dp K H w y ∧ eqOk x y = true ∧ Q (.bl (!x.eqv y)) H
theorem eqOk_of {x y : D} (h : eqOk x y = true) : x.plain = true ∧ y.plain = true ∧ min x.depth y.depth ≤ 60 := by
  unfold eqOk at h
  rw [Bool.and_eq_true, Bool.and_eq_true, decide_eq_true_eq] at h
  exact ⟨h.1.1, h.1.2, h.2⟩
theorem op_eqP (hu : X.A.units + 64 < cLine) : OpR X (compareOp .Eq) (rEqP X.K) := by
  intro pins s σ H x y v u Q I rx ry ⟨d, e, hd, he, ok, q⟩
  obtain ⟨as, r1⟩ := Dp.reads I d x v hd rx
  obtain ⟨bs, r2⟩ := Dp.reads I e y u he ry
  obtain ⟨p1, p2, p3⟩ := eqOk_of ok
  exact SeqAt.eq_plain r1 r2 p1 p2 (by omega) ⟨.bl _, H, I, rfl, q⟩
theorem op_neP (hu : X.A.units + 64 < cLine) : OpR X (compareOp .NotEq) (rNeP X.K) := by
  intro pins s σ H x y v u Q I rx ry ⟨d, e, hd, he, ok, q⟩
  obtain ⟨as, r1⟩ := Dp.reads I d x v hd rx
  obtain ⟨bs, r2⟩ := Dp.reads I e y u he ry
  obtain ⟨p1, p2, p3⟩ := eqOk_of ok
  exact SeqAt.ne_plain r1 r2 p1 p2 (by omega) ⟨.bl _, H, I, rfl, q⟩
theorem gEq_of {x y : D} {r : Vl} (e : gEq x y = some r) : r = .d (.bool (x.eqv y)) ∧ eqOk x y = true := by
  unfold gEq at e
  split at e
  · cases e
    refine ⟨?_, by simp [eqOk, PyData.plain, PyData.depth]⟩
    simp only [PyData.eqv]
    rw [Bool.beq_eq_decide_eq]
  · cases e
    refine ⟨?_, by simp [eqOk, PyData.plain, PyData.depth]⟩
    simp only [PyData.eqv]
    rw [Bool.beq_eq_decide_eq]
  · split at e
    · rename_i h; cases e; exact ⟨rfl, h⟩
    · cases e
theorem gNe_of {x y : D} {r : Vl} (e : gNe x y = some r) : r = .d (.bool (!x.eqv y)) ∧ eqOk x y = true := by
  unfold gNe at e
  split at e
  · cases e
    refine ⟨?_, by simp [eqOk, PyData.plain, PyData.depth]⟩
    simp only [PyData.eqv]
    rw [Bool.beq_eq_decide_eq]
  · cases e
    refine ⟨?_, by simp [eqOk, PyData.plain, PyData.depth]⟩
    simp only [PyData.eqv]
    rw [Bool.beq_eq_decide_eq]
  · split at e
    · rename_i h; cases e; exact ⟨rfl, h⟩
    · cases e
theorem ok_eq (hu : X.A.units + 64 < cLine) : BinOk X (compareOp .Eq) gEq := ⟨_, op_eqP hu, fun Z H u w x y r Q hx hy e k => by
  obtain ⟨rfl, ok⟩ := gEq_of e
  obtain ⟨p1, p2, _⟩ := eqOk_of ok
  exact ⟨x, y, hx.dp p1, hy.dp p2, ok, k _ _ Ext.refl (.bl _)⟩⟩
theorem ok_ne (hu : X.A.units + 64 < cLine) : BinOk X (compareOp .NotEq) gNe := ⟨_, op_neP hu, fun Z H u w x y r Q hx hy e k => by
  obtain ⟨rfl, ok⟩ := gNe_of e
  obtain ⟨p1, p2, _⟩ := eqOk_of ok
  exact ⟨x, y, hx.dp p1, hy.dp p2, ok, k _ _ Ext.refl (.bl _)⟩⟩
/-- x in y: y a list or a tuple; a text in a text -/
def inOk (x : D) (ys : List D) : Bool := x.plain && PyData.plainAll ys && decide (min (PyData.depthAll ys) x.depth ≤ 60)
theorem inOk_of {x : D} {ys : List D} (h : inOk x ys = true) : x.plain = true ∧ PyData.plainAll ys = true ∧ min (PyData.depthAll ys) x.depth ≤ 60 := by
  unfold inOk at h
  rw [Bool.and_eq_true, Bool.and_eq_true, decide_eq_true_eq] at h
  exact ⟨h.1.1, h.1.2, h.2⟩
def isIn (x : D) (ys : List D) : Bool := ys.any fun y => PyData.eqv y x
def strIn (x y : Str) : Bool := !(Builtin.Str.occurrences y x 0 y.length 1).isEmpty
def gIn : D → D → Option Vl
  | .str x, .str y => some (.d (.bool (strIn x y)))
  | x, .list ys => if inOk x ys then some (.d (.bool (isIn x ys))) else none
  | x, .tuple ys => if inOk x ys then some (.d (.bool (isIn x ys))) else none
  | _, _ => none
def gNotIn : D → D → Option Vl
  | .str x, .str y => some (.d (.bool (!strIn x y)))
  | x, .list ys => if inOk x ys then some (.d (.bool (!isIn x ys))) else none
  | x, .tuple ys => if inOk x ys then some (.d (.bool (!isIn x ys))) else none
  | _, _ => none
def rInP (K : PySem.W.Frag) (neg : Bool) : R2 := fun u w H Q => ∃ x ys, Dp K H u x ∧ (Dp K H w (.list ys) ∨ Dp K H w (.tuple ys)) ∧ inOk x ys = true ∧ Q (.bl (if neg then !isIn x ys else isIn x ys)) H
theorem op_inP (hu : X.A.units + 64 < cLine) : OpR X (compareOp .In) (rInP X.K false) := by
  intro pins s σ H x y v u Q I rx ry ⟨d, ys, hd, he, ok, q⟩
  obtain ⟨as, r1⟩ := Dp.reads I d x v hd rx
  obtain ⟨p1, p2, p3⟩ := inOk_of ok
  rcases he with he | he
  · obtain ⟨bs, r2⟩ := Dp.reads I _ y u he ry
    exact SeqAt.in_list_data r2 r1 p2 p1 (by omega) ⟨.bl _, H, I, rfl, q⟩
  · obtain ⟨bs, r2⟩ := Dp.reads I _ y u he ry
    exact SeqAt.in_tuple_data r2 r1 p2 p1 (by omega) ⟨.bl _, H, I, rfl, q⟩
theorem op_notInP (hu : X.A.units + 64 < cLine) : OpR X (compareOp .NotIn) (rInP X.K true) := by
  intro pins s σ H x y v u Q I rx ry ⟨d, ys, hd, he, ok, q⟩
  obtain ⟨as, r1⟩ := Dp.reads I d x v hd rx
  obtain ⟨p1, p2, p3⟩ := inOk_of ok
  rcases he with he | he
  · obtain ⟨bs, r2⟩ := Dp.reads I _ y u he ry
    exact SeqAt.notIn_list_data r2 r1 p2 p1 (by omega) ⟨.bl _, H, I, rfl, q⟩
  · obtain ⟨bs, r2⟩ := Dp.reads I _ y u he ry
    exact SeqAt.notIn_tuple_data r2 r1 p2 p1 (by omega) ⟨.bl _, H, I, rfl, q⟩
theorem RdV.seqL {K : PySem.W.Frag} {Z : Zs} {H : Hp} {u : V} {ys : List D} (h : RdV K Z H u (.list ys)) (p : PyData.plainAll ys = true) : Dp K H u (.list ys) := h.dp (by simpa [PyData.plain] using p)
theorem RdV.seqT {K : PySem.W.Frag} {Z : Zs} {H : Hp} {u : V} {ys : List D} (h : RdV K Z H u (.tuple ys)) (p : PyData.plainAll ys = true) : Dp K H u (.tuple ys) := h.dp (by simpa [PyData.plain] using p)
theorem ok_in (hu : X.A.units + 64 < cLine) : BinOk X (compareOp .In) gIn := ⟨_, OpR.or op_in_str (op_inP hu), fun Z H u w x y r Q hx hy e k => by
  unfold gIn at e
  split at e
  · cases e
    cases hx
    cases hy
    exact .inl ⟨_, _, rfl, rfl, k _ _ Ext.refl (.bl _)⟩
  · split at e
    · rename_i h
      cases e
      obtain ⟨p1, p2, _⟩ := inOk_of h
      exact .inr ⟨_, _, hx.dp p1, .inl (hy.seqL p2), h, k _ _ Ext.refl (.bl _)⟩
    · cases e
  · split at e
    · rename_i h
      cases e
      obtain ⟨p1, p2, _⟩ := inOk_of h
      exact .inr ⟨_, _, hx.dp p1, .inr (hy.seqT p2), h, k _ _ Ext.refl (.bl _)⟩
    · cases e
  · cases e⟩
theorem ok_notIn (hu : X.A.units + 64 < cLine) : BinOk X (compareOp .NotIn) gNotIn := ⟨_, OpR.or op_notin_str (op_notInP hu), fun Z H u w x y r Q hx hy e k => by
  unfold gNotIn at e
  split at e
  · cases e
    cases hx
    cases hy
    exact .inl ⟨_, _, rfl, rfl, k _ _ Ext.refl (.bl _)⟩
  · split at e
    · rename_i h
      cases e
      obtain ⟨p1, p2, _⟩ := inOk_of h
      exact .inr ⟨_, _, hx.dp p1, .inl (hy.seqL p2), h, k _ _ Ext.refl (.bl _)⟩
    · cases e
  · split at e
    · rename_i h
      cases e
      obtain ⟨p1, p2, _⟩ := inOk_of h
      exact .inr ⟨_, _, hx.dp p1, .inr (hy.seqT p2), h, k _ _ Ext.refl (.bl _)⟩
    · cases e
  · cases e⟩
/-! ### order -/
def gLt : D → D → Option Vl
  | .int i, .int j => some (.d (.bool (decide (i < j))))
  | .str i, .str j => some (.d (.bool (decide (i.cps.toList < j.cps.toList))))
  | _, _ => none
def gLe : D → D → Option Vl
  | .int i, .int j => some (.d (.bool (decide (i ≤ j))))
  | .str i, .str j => some (.d (.bool (!decide (j.cps.toList < i.cps.toList))))
  | _, _ => none
def gGt : D → D → Option Vl
  | .int i, .int j => some (.d (.bool (decide (j < i))))
  | _, _ => none
def gGe : D → D → Option Vl
  | .int i, .int j => some (.d (.bool (decide (j ≤ i))))
  | _, _ => none
theorem ok_lt : BinOk X (compareOp .Lt) gLt := ⟨_, OpR.or op_lt op_lt_str, fun Z H u w x y r Q hx hy e k => by
  unfold gLt at e
  split at e
  · cases e; cases hx; cases hy; exact .inl ⟨_, _, rfl, rfl, k _ _ Ext.refl (.bl _)⟩
  · cases e; cases hx; cases hy; exact .inr ⟨_, _, rfl, rfl, k _ _ Ext.refl (.bl _)⟩
  · cases e⟩
theorem ok_le : BinOk X (compareOp .LtE) gLe := ⟨_, OpR.or op_le op_le_str, fun Z H u w x y r Q hx hy e k => by
  unfold gLe at e
  split at e
  · cases e; cases hx; cases hy; exact .inl ⟨_, _, rfl, rfl, k _ _ Ext.refl (.bl _)⟩
  · cases e; cases hx; cases hy; exact .inr ⟨_, _, rfl, rfl, k _ _ Ext.refl (.bl _)⟩
  · cases e⟩
theorem ok_gt : BinOk X (compareOp .Gt) gGt := ⟨_, op_gt, fun Z H u w x y r Q hx hy e k => by
  unfold gGt at e
  split at e
  · cases e; cases hx; cases hy; exact ⟨_, _, rfl, rfl, k _ _ Ext.refl (.bl _)⟩
  · cases e⟩
theorem ok_ge : BinOk X (compareOp .GtE) gGe := ⟨_, op_ge, fun Z H u w x y r Q hx hy e k => by
  unfold gGe at e
  split at e
  · cases e; cases hx; cases hy; exact ⟨_, _, rfl, rfl, k _ _ Ext.refl (.bl _)⟩
  · cases e⟩
def D.isN : D → Bool
  | .none => true
  | _ => false
def gIs : D → D → Option Vl
  | .bool a, .bool b => some (.d (.bool (decide (a = b))))
  | x, .none => some (.d (.bool (D.isN x)))
  | _, _ => none
def gIsNot : D → D → Option Vl
  | .bool a, .bool b => some (.d (.bool (!decide (a = b))))
  | x, .none => some (.d (.bool (!D.isN x)))
  | _, _ => none
theorem isN_v {K : PySem.W.Frag} {Z : Zs} {H : Hp} {u : V} {x : D} (h : RdV K Z H u x) : decide (u = .non) = D.isN x := by
  cases x with
  | none => cases h; rfl
  | bool b => cases h; rfl
  | int b => cases h; rfl
  | str b => cases h; rfl
  | list b => obtain ⟨a, xs, rfl, _⟩ := h; rfl
  | tuple b => obtain ⟨a, xs, rfl, _⟩ := Rp.tuple h; rfl
  | dict b => obtain ⟨a, xs, rfl, _⟩ := h; rfl
theorem ok_is : BinOk X (compareOp .Is) gIs := ⟨_, OpR.or op_isBl op_isN, fun Z H u w x y r Q hx hy e k => by
  unfold gIs at e
  split at e
  · cases e; cases hx; cases hy; exact .inl ⟨_, _, rfl, rfl, k _ _ Ext.refl (.bl _)⟩
  · cases e; cases hy; exact .inr ⟨rfl, by rw [isN_v hx]; exact k _ _ Ext.refl (.bl _)⟩
  · cases e⟩
theorem ok_isNot : BinOk X (compareOp .IsNot) gIsNot := ⟨_, OpR.or op_notBl op_notN, fun Z H u w x y r Q hx hy e k => by
  unfold gIsNot at e
  split at e
  · cases e; cases hx; cases hy; exact .inl ⟨_, _, rfl, rfl, k _ _ Ext.refl (.bl _)⟩
  · cases e; cases hy; exact .inr ⟨rfl, by rw [isN_v hx]; exact k _ _ Ext.refl (.bl _)⟩
  · cases e⟩

/-! ### truth -/
def truD : D → Option Bool
  | .none => some false
  | .bool b => some b
  | .int i => some (i != 0)
  | .str y => if y.length ≤ sizeLine then some ((y.length : Int) != 0) else none
  | .list xs => some (!xs.isEmpty)
  | .tuple xs => some (!xs.isEmpty)
  | .dict _ => none
theorem isEmpty_rp {K : PySem.W.Frag} {Z : Zs} {H : Hp} {vs : List V} {xs : List D} (h : RpAll K Z H vs xs) : (!xs.isEmpty) = !vs.isEmpty := by cases h <;> rfl
theorem truV_of {K : PySem.W.Frag} {Z : Zs} {H : Hp} {u : V} {x : D} {k : Bool} (h : RdV K Z H u x) (e : truD x = some k) : TruV K u H k := by
  cases x with
  | none => cases h; cases e; rfl
  | bool b => cases h; cases e; rfl
  | int b => cases h; cases e; rfl
  | str b =>
    cases h
    unfold truD at e
    dsimp only at e
    split at e
    · rename_i hl; cases e; exact ⟨hl, rfl⟩
    · cases e
  | list b =>
    obtain ⟨a, xs, rfl, h1, h2⟩ := h
    cases e
    exact .inl ⟨xs, .inl (.inl h1), isEmpty_rp h2⟩
  | tuple b =>
    obtain ⟨a, xs, rfl, h1, h2⟩ := Rp.tuple h
    cases e
    exact .inr (.inl ⟨xs, h1.sq, isEmpty_rp h2⟩)
  | dict b => cases e
def truOf (ρ : Rho) (v : Vl) : Option Bool := (rd ρ v).bind truD
/-- a test by its value's truth -/
def mTru (m : Rho → Out Vl) (ρ : Rho) : Out Bool := (m ρ).bind fun v ρ1 => oOf (truOf ρ1 v) ρ1
theorem tru_core {m : Rho → Out Vl} {σ : St} {H : Hp} {Q : Bool → Hp → Prop} (h : tT (cy X cv W) (mTru m) σ H Q) : tV (cy X cv W) m σ H fun x H' => ∃ k, TruV X.K x H' k ∧ Q k H' := by
  obtain ⟨Z, ρ, r, h⟩ := h
  refine tV.bind (S := fun _ => SB) monoB r h fun v ρ1 u H1 Z1 r1 f1 q1 h1 => ?_
  unfold truOf at h1
  cases e1 : rd ρ1 v with
  | none => rw [e1] at h1; exact h1.elim
  | some x =>
    rw [e1] at h1
    cases e2 : truD x with
    | none =>
      have h1 : Fits _ _ _ _ _ _ (oOf (truD x) ρ1) Q := h1
      rw [e2] at h1; exact h1.elim
    | some k =>
      have h1 : Fits _ _ _ _ _ _ (oOf (truD x) ρ1) Q := h1
      rw [e2] at h1
      exact ⟨k, truV_of (rd_ok r1 q1 e1) e2, h1.ret r1 rfl⟩
theorem vt_tru {a : Expr} {m : Rho → Out Vl} (ha : VE X cv W a m) (he : ∀ whole, isTrue a X.env whole = (do let v ← whole; standAt a.pos; holding [v] (truthy v))) : VT X cv W a (mTru m) :=
  PT.imp (pt_truth ha he) fun σ H Q h => tru_core h

/-! ### and, or, not, if .. else -/
def mIf {α : Type} (c : Rho → Out Bool) (a b : Rho → Out α) (ρ : Rho) : Out α := (c ρ).bind fun k ρ1 => if k = true then a ρ1 else b ρ1
def mB (b : Bool) (ρ : Rho) : Out Bool := .ok b ρ
def mNotB (c : Rho → Out Bool) (ρ : Rho) : Out Bool := (c ρ).bind fun k ρ1 => .ok (!k) ρ1
/-- a test whatever its whole is -/
def VW (X : Cx) (cv : Nat → Value) (W : WX) (e : Expr) (m : Rho → Out Bool) : Prop := PW X e (tT (cy X cv W) m)
theorem PW.imp {X : Cx} {e : Expr} {t t' : TT} (h : PW X e t) (k : ∀ σ H Q, t' σ H Q → t σ H Q) : PW X e t' := ⟨fun w pins s σ H Q I q => h.run w pins s σ H Q I (k σ H Q q)⟩
theorem VW.vt {e : Expr} {m : Rho → Out Bool} (h : VW X cv W e m) : VT X cv W e m := PW.pt h
section
variable {a b : Expr} {rest : List Expr} {pos : Pos} {ma mb : Rho → Out Bool}
theorem vw_and1 (ha : VT X cv W a ma) : VW X cv W (.BoolOp .And [a] pos) ma := pw_and1 ha
theorem vw_or1 (ha : VT X cv W a ma) : VW X cv W (.BoolOp .Or [a] pos) ma := pw_or1 ha
theorem vw_and (ha : VT X cv W a ma) (hb : VW X cv W (.BoolOp .And (b :: rest) pos) mb) : VW X cv W (.BoolOp .And (a :: b :: rest) pos) (mIf ma mb (mB false)) :=
  PW.imp (pw_and ha hb) fun σ H Q ⟨Z, ρ, r, h⟩ => tT.bind (S := fun _ => SB) monoB r h fun k ρ1 H1 Z1 r1 f1 h1 => by
    cases k with
    | true => exact ⟨Z1, ρ1, r1, h1⟩
    | false => exact h1.ret r1 rfl
theorem vw_or (ha : VT X cv W a ma) (hb : VW X cv W (.BoolOp .Or (b :: rest) pos) mb) : VW X cv W (.BoolOp .Or (a :: b :: rest) pos) (mIf ma (mB true) mb) :=
  PW.imp (pw_or ha hb) fun σ H Q ⟨Z, ρ, r, h⟩ => tT.bind (S := fun _ => SB) monoB r h fun k ρ1 H1 Z1 r1 f1 h1 => by
    cases k with
    | true => exact h1.ret r1 rfl
    | false => exact ⟨Z1, ρ1, r1, h1⟩
theorem vt_not (ha : VT X cv W a ma) : VT X cv W (.UnaryOp .Not a pos) (mNotB ma) :=
  PT.imp (pt_not ha) fun σ H Q ⟨Z, ρ, r, h⟩ => tT.bind (S := fun _ => SB) monoB r h fun k ρ1 H1 Z1 r1 f1 h1 => h1.ret r1 rfl
theorem ve_if {c : Expr} {mc : Rho → Out Bool} {ma mb : Rho → Out Vl} (hc : VT X cv W c mc) (ha : VE X cv W a ma) (hb : VE X cv W b mb) : VE X cv W (.IfExp c a b pos) (mIf mc ma mb) :=
  PE.imp (pe_ifExp hc ha hb) fun σ H Q ⟨Z, ρ, r, h⟩ => tT.bind (S := SV X.K σ) monoV r h fun k ρ1 H1 Z1 r1 f1 h1 => by
    cases k with
    | true => exact ⟨Z1, ρ1, r1, h1⟩
    | false => exact ⟨Z1, ρ1, r1, h1⟩
/-! as values -/
def mKeep (v : Vl) (ρ : Rho) : Out Vl :=
  match v with
  | .n _ => .st
  | v => .ok v ρ
def mAndV (ma mb : Rho → Out Vl) (ρ : Rho) : Out Vl := (ma ρ).bind fun v ρ1 => (oOf (truOf ρ1 v) ρ1 : Out Bool).bind fun k ρ2 => if k = true then mb ρ2 else mKeep v ρ2
def mOrV (ma mb : Rho → Out Vl) (ρ : Rho) : Out Vl := (ma ρ).bind fun v ρ1 => (oOf (truOf ρ1 v) ρ1 : Out Bool).bind fun k ρ2 => if k = true then mKeep v ρ2 else mb ρ2
def mNotV (ma : Rho → Out Vl) (ρ : Rho) : Out Vl := (ma ρ).bind fun v ρ1 => (oOf (truOf ρ1 v) ρ1 : Out Bool).bind fun k ρ2 => .ok (.d (.bool (!k))) ρ2
theorem truOf_bind {Z : Zs} {σ : St} {ρ1 : Rho} {H0 H1 : Hp} {α β : Type} {S : Rho → Zs → Hp → α → β → Prop} {v : Vl} {u : V} {k : Bool → Rho → Out α} {Q : β → Hp → Prop} (r1 : Rel X.K Z σ H1 ρ1) (q1 : VlR X.K σ ρ1 H0 Z H1 v u)
    (h1 : Fits (cy X cv W) Z σ ρ1 H1 S ((oOf (truOf ρ1 v) ρ1 : Out Bool).bind k) Q) : ∃ b, TruV X.K u H1 b ∧ Fits (cy X cv W) Z σ ρ1 H1 S (k b ρ1) Q := by
  cases e : truOf ρ1 v with
  | none => rw [e] at h1; exact h1.elim
  | some b =>
    rw [e] at h1
    refine ⟨b, ?_, h1⟩
    unfold truOf at e
    cases e1 : rd ρ1 v with
    | none => rw [e1] at e; cases e
    | some x =>
      rw [e1] at e
      exact truV_of (rd_ok r1 q1 e1) e
theorem keep_ret {Z : Zs} {σ : St} {ρ1 : Rho} {H0 H1 : Hp} {v : Vl} {u : V} {Q : VK} (r1 : Rel X.K Z σ H1 ρ1) (q1 : VlR X.K σ ρ1 H0 Z H1 v u) (h : Fits (cy X cv W) Z σ ρ1 H1 (SV X.K σ H1) (mKeep v ρ1) Q) : Q u H1 := by
  cases v with
  | d x => exact Fits.ret (S := SV X.K σ H1) h r1 q1
  | s i => exact Fits.ret (S := SV X.K σ H1) h r1 q1
  | n c => exact h.elim
theorem Fits.later {C : Cy} {Z Z1 : Zs} {σ : St} {ρ ρ1 : Rho} {H H1 : Hp} {α β : Type} {S S' : Rho → Zs → Hp → α → β → Prop} {r : Out α} {Q : β → Hp → Prop} (h : Fits C Z σ ρ H S r Q) (r1 : Rel C.K Z1 σ H1 ρ1) (f1 : Fr Z σ ρ H Z1 σ ρ1 H1)
    (hS : ∀ ρ' Z' H' v u, S' ρ' Z' H' v u → S ρ' Z' H' v u) : Fits C Z1 σ ρ1 H1 S' r Q := by
  cases r with
  | st => exact h
  | ex c ρ2 => exact fun H' Z' r2 f2 => h H' Z' r2 (f1.trans f2)
  | ok w ρ2 => exact fun u H' Z' r2 f2 q2 => h u H' Z' r2 (f1.trans f2) (hS _ _ _ _ _ q2)
theorem ve_one {op : BoolOp} {m : Rho → Out Vl} (ha : VE X cv W a m) : VE X cv W (.BoolOp op [a] pos) m := pe_one ha
theorem ve_and {ma mb : Rho → Out Vl} (ha : VE X cv W a ma) (hb : VE X cv W (.BoolOp .And (b :: rest) pos) mb) : VE X cv W (.BoolOp .And (a :: b :: rest) pos) (mAndV ma mb) :=
  PE.imp (pe_andT ha hb) fun σ H Q ⟨Z, ρ, r, h⟩ => tV.bind (S := SV X.K σ) monoV r h fun v ρ1 u H1 Z1 r1 f1 q1 h1 => by
    obtain ⟨k, t, h2⟩ := truOf_bind r1 q1 h1
    refine ⟨k, t, ?_⟩
    cases k with
    | true => exact ⟨Z1, ρ1, r1, h2⟩
    | false => exact keep_ret r1 q1 h2
theorem ve_or {ma mb : Rho → Out Vl} (ha : VE X cv W a ma) (hb : VE X cv W (.BoolOp .Or (b :: rest) pos) mb) : VE X cv W (.BoolOp .Or (a :: b :: rest) pos) (mOrV ma mb) :=
  PE.imp (pe_orT ha hb) fun σ H Q ⟨Z, ρ, r, h⟩ => tV.bind (S := SV X.K σ) monoV r h fun v ρ1 u H1 Z1 r1 f1 q1 h1 => by
    obtain ⟨k, t, h2⟩ := truOf_bind r1 q1 h1
    refine ⟨k, t, ?_⟩
    cases k with
    | true => exact keep_ret r1 q1 h2
    | false => exact ⟨Z1, ρ1, r1, h2⟩
theorem ve_not {ma : Rho → Out Vl} (ha : VE X cv W a ma) : VE X cv W (.UnaryOp .Not a pos) (mNotV ma) :=
  PE.imp (pe_notT ha) fun σ H Q ⟨Z, ρ, r, h⟩ => tV.bind (S := SV X.K σ) monoV r h fun v ρ1 u H1 Z1 r1 f1 q1 h1 => by
    obtain ⟨k, t, h2⟩ := truOf_bind r1 q1 h1
    exact ⟨k, t, h2.ret r1 (.bl _)⟩
end
/-! ### one operand; chains -/
def gNeg : D → Option Vl
  | .int i => some (.d (.int (-i)))
  | _ => none
def mUn (g : D → Option Vl) (ma : Rho → Out Vl) (ρ : Rho) : Out Vl := (ma ρ).bind fun x ρ1 => oOf ((rd ρ1 x).bind g) ρ1
theorem ve_neg {a : Expr} {pos : Pos} {ma : Rho → Out Vl} (ha : VE X cv W a ma) : VE X cv W (.UnaryOp .USub a pos) (mUn gNeg ma) :=
  PE.imp (pe_un un_neg ha) fun σ H Q ⟨Z, ρ, r, h⟩ => tV.bind (S := SV X.K σ) monoV r h fun v ρ1 u H1 Z1 r1 f1 q1 h1 => by
    cases e1 : rd ρ1 v with
    | none => rw [e1] at h1; exact h1.elim
    | some x =>
      rw [e1] at h1
      have q := rd_ok r1 q1 e1
      cases x with
      | int i => cases q; exact ⟨i, rfl, h1.ret r1 (.int _)⟩
      | _ => exact h1.elim
/-- a op1 b op2 c -/
def mChain (g g' : D → D → Option Vl) (ma mb mc : Rho → Out Vl) (ρ : Rho) : Out Vl :=
  (ma ρ).bind fun x ρ1 => (mb ρ1).bind fun y ρ2 => (oOf (asB ((rd ρ2 x).bind fun dx => (rd ρ2 y).bind fun dy => g dx dy)) ρ2 : Out Bool).bind fun k ρ3 =>
    if k = true then (mc ρ3).bind fun z ρ4 => oOf ((rd ρ4 y).bind fun dy => (rd ρ4 z).bind fun dz => g' dy dz) ρ4 else .ok (.d (.bool false)) ρ3
theorem chain_core {op op' : CmpOp} {g g' : D → D → Option Vl} {ma mb mc : Rho → Out Vl} (ho : BinOk X (compareOp op) g) (ho' : BinOk X (compareOp op') g') :
    ∃ rr rr', OpR X (compareOp op) rr ∧ OpR X (compareOp op') rr' ∧ ∀ σ H Q, tV (cy X cv W) (mChain g g' ma mb mc) σ H Q → tChain rr rr' (tV (cy X cv W) ma) (tV (cy X cv W) mb) (tV (cy X cv W) mc) σ H Q := by
  obtain ⟨rr, h1, hop⟩ := ho
  obtain ⟨rr', h1', hop'⟩ := ho'
  refine ⟨rr, rr', h1, h1', fun σ H Q ⟨Z, ρ, r, h⟩ => ?_⟩
  refine tV.bind (S := SV X.K σ) monoV r h fun v ρ1 u H1 Z1 r1 f1 q1 h1 => ?_
  refine tV.bind (S := SV X.K σ) monoV r1 h1 fun w ρ2 z H2 Z2 r2 f2 q2 h2 => ?_
  have q1' := q1.keep r1 f2
  cases e1 : rd ρ2 v with
  | none => rw [e1] at h2; exact h2.elim
  | some dx =>
    cases e2 : rd ρ2 w with
    | none => rw [e1, e2] at h2; exact h2.elim
    | some dy =>
      rw [e1, e2] at h2
      have h2 : Fits _ _ _ _ _ _ ((oOf (asB (g dx dy)) ρ2 : Out Bool).bind _) Q := h2
      cases e3 : g dx dy with
      | none => rw [e3] at h2; exact h2.elim
      | some t =>
        rw [e3] at h2
        unfold asB at h2
        split at h2
        · rename_i kb ek
          cases ek
          refine hop Z2 H2 u z dx dy _ _ (rd_ok r2 q1' e1) (rd_ok r2 q2 e2) e3 fun t H3 x hres => ?_
          cases hres
          refine ⟨kb, rfl, ?_⟩
          have r3 := x.rel r2
          have f3 : Fr Z2 σ ρ2 H2 Z2 σ ρ2 H3 := x.fr
          cases kb with
          | false => exact h2.ext r2 x (.bl _)
          | true =>
            have h2 : Fits (cy X cv W) Z2 σ ρ2 H2 _ ((mc ρ2).bind _) Q := h2
            have h3 := h2.later (S' := SV X.K σ H3) r3 f3 fun ρ' Z' H' v u q => VlR.start (fun p e => f3.fresh e) q
            show tV (cy X cv W) mc σ H3 _
            refine tV.bind (S := SV X.K σ) monoV r3 h3 fun w' ρ4 u4 H4 Z4 r4 f4 q4 h4 => ?_
            have q2' := (q2.keep r2 f3).keep r3 f4
            cases e5 : rd ρ4 w with
            | none => rw [e5] at h4; exact h4.elim
            | some dy' =>
              cases e6 : rd ρ4 w' with
              | none => rw [e5, e6] at h4; exact h4.elim
              | some dz =>
                rw [e5, e6] at h4
                have h4 : Fits _ _ _ _ _ _ (oOf (g' dy' dz) ρ4) Q := h4
                cases e7 : g' dy' dz with
                | none => rw [e7] at h4; exact h4.elim
                | some t' =>
                  rw [e7] at h4
                  exact hop' Z4 H4 z u4 dy' dz t' Q (rd_ok r4 q2' e5) (rd_ok r4 q4 e6) e7 fun v H' x q => h4.ext r4 x (q.vl r4)
        · exact h2.elim
theorem ve_chain {op op' : CmpOp} {a b c : Expr} {pos : Pos} {g g' : D → D → Option Vl} {ma mb mc : Rho → Out Vl} (ho : BinOk X (compareOp op) g) (ho' : BinOk X (compareOp op') g') (ha : VE X cv W a ma) (hb : VE X cv W b mb) (hc : VE X cv W c mc)
    (hm : lastMarks [op, op'] [b, c] = false) : VE X cv W (.Compare a [op, op'] [b, c] pos) (mChain g g' ma mb mc) := by
  obtain ⟨rr, rr', h1, h2, h3⟩ := chain_core (cv := cv) (W := W) (ma := ma) (mb := mb) (mc := mc) ho ho'
  exact PE.imp (pe_chain h1 h2 ha hb hc hm) h3
theorem vt_chain {op op' : CmpOp} {a b c : Expr} {pos : Pos} {g g' : D → D → Option Vl} {ma mb mc : Rho → Out Vl} (ho : BinOk X (compareOp op) g) (ho' : BinOk X (compareOp op') g') (ha : VE X cv W a ma) (hb : VE X cv W b mb) (hc : VE X cv W c mc)
    (hm : lastMarks [op, op'] [b, c] = false) : VT X cv W (.Compare a [op, op'] [b, c] pos) (mTst (mChain g g' ma mb mc)) := by
  obtain ⟨rr, rr', h1, h2, h3⟩ := chain_core (cv := cv) (W := W) (ma := ma) (mb := mb) (mc := mc) ho ho'
  exact PT.imp (pt_chain h1 h2 ha hb hc hm) fun σ H Q h => h3 σ H (fun x H' => ∃ k, x = .bl k ∧ Q k H') (tst_core h)
end
end EV
set_option maxHeartbeats 400000
namespace EV
open PySem PySem.Spec PyProof.Rows L2
section
variable {X : Cx} {cv : Nat → Value} {W : WX}

/-! ### freezing -/
def frz1 (v : Vl) (ρ : Rho) : Option (D × Rho) :=
  match v with
  | .d x => some (x, ρ)
  | .n c => c.toD.map fun x => (x, ρ)
  | .s i => match ρ[i]? with
    | some (.d x) => some (x, ρ)
    | some (.o .own c) => c.toD.map fun x => (x, ρ.set i (.d x))
    | _ => none
def frzs : List Vl → Rho → Option (List D × Rho)
  | [], ρ => some ([], ρ)
  | v :: vs, ρ => (frz1 v ρ).bind fun p => (frzs vs p.2).map fun q => (p.1 :: q.1, q.2)
/-- what is held by a value, though it may be frozen by now -/
def VlW (K : PySem.W.Frag) (σ : St) (ρ : Rho) (H0 : Hp) (Z : Zs) (H : Hp) : Vl → V → Prop
  | .d x, u => Rp K Z H u x
  | .n c, u => ∃ a ho, u = .ref a ∧ ¬ OwnAt σ ρ a ∧ H0 a = none ∧ H a = some ho ∧ CoR K Z H ho c
  | .s i, u => σ[i]? = some (some u)
theorem VlR.w {K : PySem.W.Frag} {σ : St} {ρ : Rho} {H0 H : Hp} {Z : Zs} : ∀ {v : Vl} {u : V}, VlR K σ ρ H0 Z H v u → VlW K σ ρ H0 Z H v u
  | .d _, _, h => h
  | .n _, _, ⟨a, ho, e, _, no, h0, e2, q⟩ => ⟨a, ho, e, no, h0, e2, q⟩
  | .s _, _, h => h
def addZ (Z : Zs) (a : Addr) : Zs := fun b => Z b ∨ b = a
theorem OwnAt.of_set {σ : St} {ρ : Rho} {i : Nat} {x : D} {b : Addr} (h : OwnAt σ (ρ.set i (.d x)) b) : OwnAt σ ρ b := by
  obtain ⟨j, m, c, h1, h2⟩ := h
  by_cases e : i = j
  · subst e
    rw [List.getElem?_set] at h1
    rw [if_pos rfl] at h1
    split at h1
    · cases h1
    · cases h1
  · rw [List.getElem?_set_ne e] at h1
    exact ⟨j, m, c, h1, h2⟩
/-- an object that is no slot's is frozen -/
theorem Rel.freeze {K : PySem.W.Frag} {Z : Zs} {σ : St} {H : Hp} {ρ : Rho} (r : Rel K Z σ H ρ) {a : Addr} {ho : HO} (e : H a = some ho) (no : ¬ OwnAt σ ρ a) : Rel K (addZ Z a) σ H ρ :=
  have kp : Kp Z (addZ Z a) H H := Kp.grow fun _ h => .inl h
  ⟨r.len, fun i x h => let ⟨u, h1, q⟩ := r.d i x h; ⟨u, h1, q.keep kp⟩, fun i m c h => let ⟨b, ho', h1, nz, h2, q⟩ := r.o i m c h; ⟨b, ho', h1, fun z => z.elim nz fun z => no (z ▸ ⟨i, m, c, h, h1⟩), h2, q.keep kp⟩,
    r.s, r.e, r.ap, fun b z => z.elim (r.zt b) fun z => ⟨ho, by rw [z]; exact e⟩⟩
theorem frz1_ok {K : PySem.W.Frag} {Z0 Z : Zs} {σ σ0 : St} {H0 H : Hp} {ρ0 ρ ρ' : Rho} {v : Vl} {u : V} {x : D} (r : Rel K Z σ H ρ) (f : Fr Z0 σ0 ρ0 H0 Z σ ρ H) (h : VlW K σ ρ H0 Z H v u) (e : frz1 v ρ = some (x, ρ')) :
    ∃ Z', Rel K Z' σ H ρ' ∧ Fr Z0 σ0 ρ0 H0 Z' σ ρ' H ∧ Rp K Z' H u x ∧ (∀ b, Z b → Z' b) ∧ ∀ b, OwnAt σ ρ' b → OwnAt σ ρ b := by
  cases v with
  | d y => cases e; exact ⟨Z, r, f, h, fun _ h => h, fun _ h => h⟩
  | n c =>
    obtain ⟨a, ho, rfl, no, h0, e2, q⟩ := h
    unfold frz1 at e
    dsimp only at e
    cases ec : c.toD with
    | none => rw [ec] at e; cases e
    | some y =>
      rw [ec] at e
      cases e
      have kp : Kp Z (addZ Z a) H H := Kp.grow fun _ h => .inl h
      refine ⟨addZ Z a, r.freeze e2 no, ⟨f.keep, fun b z => .inl (f.zup b z), fun b o z h => ?_, f.own, f.bor, f.live⟩, CoR.rp (.inr rfl) e2 (q.keep kp) ec, fun _ h => .inl h, fun _ h => h⟩
      rcases z with z | z
      · exact f.znew b o z h
      · subst z; rw [h0] at h; cases h
  | s i =>
    have h : σ[i]? = some (some u) := h
    unfold frz1 at e
    dsimp only at e
    split at e
    · rename_i y ey
      cases e
      obtain ⟨u', h1, q⟩ := r.d _ _ ey
      rw [h] at h1; cases h1
      exact ⟨Z, r, f, q, fun _ h => h, fun _ h => h⟩
    · rename_i c ey
      cases ec : c.toD with
      | none => rw [ec] at e; cases e
      | some y =>
        rw [ec] at e
        cases e
        obtain ⟨a, ho, h1, nz, h2, q⟩ := r.o _ _ _ ey
        rw [h] at h1; cases h1
        have kp : Kp Z (addZ Z a) H H := Kp.grow fun _ h => .inl h
        have hlt : i < ρ.length := (List.getElem?_eq_some_iff.mp ey).1
        have own : ∀ b, OwnAt σ (ρ.set i (.d x)) b → OwnAt σ ρ b := fun b h => OwnAt.of_set h
        have rp : Rp K (addZ Z a) H (.ref a) x := CoR.rp (.inr rfl) h2 (q.keep kp) ec
        refine ⟨addZ Z a, ⟨by rw [List.length_set]; exact r.len, fun j z hj => ?_, fun j m d hj => ?_, fun j ns hj => ?_, fun j b hj => ?_, fun j k m n d d' b hj hk => ?_, fun b z => z.elim (r.zt b) fun z => ⟨ho, by rw [z]; exact h2⟩⟩,
          ⟨f.keep, fun b z => .inl (f.zup b z), fun b o z hb => ?_, fun b h => f.own b (own b h), fun j m d hj hm => ?_, f.live⟩, rp, fun _ h => .inl h, own⟩
        · by_cases ij : i = j
          · subst ij
            rw [List.getElem?_set, if_pos rfl, if_pos hlt] at hj
            cases hj
            exact ⟨_, h, rp⟩
          · rw [List.getElem?_set_ne ij] at hj
            obtain ⟨w, h3, q3⟩ := r.d _ _ hj
            exact ⟨w, h3, q3.keep kp⟩
        · by_cases ij : i = j
          · subst ij
            rw [List.getElem?_set, if_pos rfl, if_pos hlt] at hj
            cases hj
          · rw [List.getElem?_set_ne ij] at hj
            obtain ⟨b, ho', h3, nz3, h4, q3⟩ := r.o _ _ _ hj
            exact ⟨b, ho', h3, fun z => z.elim nz3 fun z => ij (r.ap i j _ _ _ _ a ey hj h (z ▸ h3)), h4, q3.keep kp⟩
        · by_cases ij : i = j
          · subst ij
            rw [List.getElem?_set, if_pos rfl, if_pos hlt] at hj
            cases hj
          · rw [List.getElem?_set_ne ij] at hj
            exact r.s _ _ hj
        · by_cases ij : i = j
          · subst ij
            rw [List.getElem?_set, if_pos rfl, if_pos hlt] at hj
            cases hj
          · rw [List.getElem?_set_ne ij] at hj
            exact r.e _ _ hj
        · have get : ∀ {l : Nat} {m : Md} {d : Co}, (ρ.set i (.d x))[l]? = some (.o m d) → ρ[l]? = some (.o m d) := fun {l m d} hl => by
            by_cases il : i = l
            · subst il
              rw [List.getElem?_set, if_pos rfl, if_pos hlt] at hl
              cases hl
            · rwa [List.getElem?_set_ne il] at hl
          exact r.ap j k m n d d' b (get hj) (get hk)
        · rcases z with z | z
          · exact f.znew b o z hb
          · rw [z] at hb ⊢
            rcases f.own a ⟨i, _, _, ey, h⟩ with q | q
            · exact .inr q
            · rw [hb] at q; cases q
        · obtain ⟨g1, d', g2, g3⟩ := f.bor j m d hj hm
          refine ⟨g1, d', ?_, g3⟩
          by_cases ij : i = j
          · subst ij
            rw [ey] at g2; cases g2
            exact absurd rfl hm
          · rw [List.getElem?_set_ne ij]; exact g2
    · cases e
theorem VlW.later {K : PySem.W.Frag} {Z Z' : Zs} {σ : St} {H0 H : Hp} {ρ ρ' : Rho} {v : Vl} {u : V} (h : VlW K σ ρ H0 Z H v u) (z : ∀ b, Z b → Z' b) (o : ∀ b, OwnAt σ ρ' b → OwnAt σ ρ b) : VlW K σ ρ' H0 Z' H v u := by
  have kp : Kp Z Z' H H := Kp.grow z
  cases v with
  | d y => exact Rp.keep kp h
  | n c =>
    obtain ⟨a, ho, rfl, no, h0, e2, q⟩ := h
    exact ⟨a, ho, rfl, fun q => no (o _ q), h0, e2, q.keep kp⟩
  | s i => exact h
inductive VlsW (K : PySem.W.Frag) (σ : St) (ρ : Rho) (H0 : Hp) (Z : Zs) (H : Hp) : List Vl → List V → Prop
  | nil : VlsW K σ ρ H0 Z H [] []
  | cons {v vs u us} : VlW K σ ρ H0 Z H v u → VlsW K σ ρ H0 Z H vs us → VlsW K σ ρ H0 Z H (v :: vs) (u :: us)
theorem VlsR.w {K : PySem.W.Frag} {σ : St} {ρ : Rho} {H0 H : Hp} {Z : Zs} : ∀ {v : List Vl} {u : List V}, VlsR K σ ρ H0 Z H v u → VlsW K σ ρ H0 Z H v u
  | _, _, .nil => .nil
  | _, _, .cons a b => .cons a.w (VlsR.w b)
theorem VlsW.later {K : PySem.W.Frag} {Z Z' : Zs} {σ : St} {H0 H : Hp} {ρ ρ' : Rho} (z : ∀ b, Z b → Z' b) (o : ∀ b, OwnAt σ ρ' b → OwnAt σ ρ b) : ∀ {v : List Vl} {u : List V}, VlsW K σ ρ H0 Z H v u → VlsW K σ ρ' H0 Z' H v u
  | _, _, .nil => .nil
  | _, _, .cons a b => .cons (a.later z o) (VlsW.later z o b)
theorem frzs_ok {K : PySem.W.Frag} {Z0 : Zs} {σ σ0 : St} {H0 H : Hp} {ρ0 : Rho} : ∀ {vs : List Vl} {us : List V} {Z : Zs} {ρ ρ' : Rho} {xs : List D}, Rel K Z σ H ρ → Fr Z0 σ0 ρ0 H0 Z σ ρ H → VlsW K σ ρ H0 Z H vs us → frzs vs ρ = some (xs, ρ') →
    ∃ Z', Rel K Z' σ H ρ' ∧ Fr Z0 σ0 ρ0 H0 Z' σ ρ' H ∧ RpAll K Z' H us xs ∧ (∀ b, Z b → Z' b) ∧ ∀ b, OwnAt σ ρ' b → OwnAt σ ρ b
  | [], us, Z, ρ, ρ', xs, r, f, h, e => by
    cases h
    cases e
    exact ⟨Z, r, f, .nil, fun _ h => h, fun _ h => h⟩
  | v :: vs, us, Z, ρ, ρ', xs, r, f, h, e => by
    cases h with
    | cons h1 h2 =>
      unfold frzs at e
      cases e1 : frz1 v ρ with
      | none => rw [e1] at e; cases e
      | some p =>
        obtain ⟨x, ρ1⟩ := p
        rw [e1] at e
        cases e2 : frzs vs ρ1 with
        | none =>
          have e : (frzs vs ρ1).map _ = _ := e
          rw [e2] at e; cases e
        | some q =>
          obtain ⟨ys, ρ2⟩ := q
          have e : (frzs vs ρ1).map _ = _ := e
          rw [e2] at e
          cases e
          obtain ⟨Z1, r1, f1, q1, z1, o1⟩ := frz1_ok r f h1 e1
          obtain ⟨Z2, r2, f2, q2, z2, o2⟩ := frzs_ok r1 f1 (h2.later z1 o1) e2
          exact ⟨Z2, r2, f2, .cons (q1.keep (Kp.grow z2)) q2, fun b h => z2 b (z1 b h), fun b h => o1 b (o2 b h)⟩

/-! ### the rest is asked from the start -/
theorem tV.bind1 {C : Cy} {Z Z1 : Zs} {σ σ0 : St} {ρ ρ1 : Rho} {H H1 : Hp} {γ δ : Type} {S : Rho → Zs → Hp → γ → δ → Prop} {ma : Rho → Out Vl} {k : Vl → Rho → Out γ} {Q : δ → Hp → Prop} {P : VK} (r : Rel C.K Z1 σ H1 ρ1) (f : Fr Z σ ρ H Z1 σ ρ1 H1)
    (h : Fits C Z σ ρ H S ((ma ρ1).bind k) Q)
    (hk : ∀ v ρ2 u H2 Z2, Rel C.K Z2 σ H2 ρ2 → Fr Z1 σ ρ1 H1 Z2 σ ρ2 H2 → VlR C.K σ ρ2 H1 Z2 H2 v u → Fits C Z σ ρ H S (k v ρ2) Q → P u H2) : tV C ma σ H1 P := by
  refine ⟨Z1, ρ1, r, ?_⟩
  cases e : ma ρ1 with
  | st => rw [e] at h; exact h
  | ex c ρ2 => rw [e] at h; exact fun H' Z' r2 f2 => h H' Z' r2 (f.trans f2)
  | ok v ρ2 =>
    rw [e] at h
    exact fun u H2 Z2 r2 f2 q2 => hk v ρ2 u H2 Z2 r2 f2 q2 h
theorem tA.bind1 {C : Cy} {Z Z1 : Zs} {σ : St} {ρ ρ1 : Rho} {H H1 : Hp} {γ δ : Type} {S : Rho → Zs → Hp → γ → δ → Prop} {ma : Rho → Out (List Vl)} {k : List Vl → Rho → Out γ} {Q : δ → Hp → Prop} {P : List V → Hp → Prop} (r : Rel C.K Z1 σ H1 ρ1) (f : Fr Z σ ρ H Z1 σ ρ1 H1)
    (h : Fits C Z σ ρ H S ((ma ρ1).bind k) Q)
    (hk : ∀ v ρ2 u H2 Z2, Rel C.K Z2 σ H2 ρ2 → Fr Z1 σ ρ1 H1 Z2 σ ρ2 H2 → VlsR C.K σ ρ2 H1 Z2 H2 v u → Fits C Z σ ρ H S (k v ρ2) Q → P u H2) : tA C ma σ H1 P := by
  refine ⟨Z1, ρ1, r, ?_⟩
  cases e : ma ρ1 with
  | st => rw [e] at h; exact h
  | ex c ρ2 => rw [e] at h; exact fun H' Z' r2 f2 => h H' Z' r2 (f.trans f2)
  | ok v ρ2 =>
    rw [e] at h
    exact fun u H2 Z2 r2 f2 q2 => hk v ρ2 u H2 Z2 r2 f2 q2 h
theorem tT.bind1 {C : Cy} {Z Z1 : Zs} {σ : St} {ρ ρ1 : Rho} {H H1 : Hp} {γ δ : Type} {S : Rho → Zs → Hp → γ → δ → Prop} {ma : Rho → Out Bool} {k : Bool → Rho → Out γ} {Q : δ → Hp → Prop} {P : Bool → Hp → Prop} (r : Rel C.K Z1 σ H1 ρ1) (f : Fr Z σ ρ H Z1 σ ρ1 H1)
    (h : Fits C Z σ ρ H S ((ma ρ1).bind k) Q)
    (hk : ∀ v ρ2 H2 Z2, Rel C.K Z2 σ H2 ρ2 → Fr Z1 σ ρ1 H1 Z2 σ ρ2 H2 → Fits C Z σ ρ H S (k v ρ2) Q → P v H2) : tT C ma σ H1 P := by
  refine ⟨Z1, ρ1, r, ?_⟩
  cases e : ma ρ1 with
  | st => rw [e] at h; exact h
  | ex c ρ2 => rw [e] at h; exact fun H' Z' r2 f2 => h H' Z' r2 (f.trans f2)
  | ok v ρ2 =>
    rw [e] at h
    intro u H2 Z2 r2 f2 q2
    cases q2
    exact hk v ρ2 H2 Z2 r2 f2 h
theorem Fits.fin {C : Cy} {Z Z1 : Zs} {σ : St} {ρ ρ1 : Rho} {H H1 H2 : Hp} {α β : Type} {S : Rho → Zs → Hp → α → β → Prop} {a : α} {u : β} {Q : β → Hp → Prop} (h : Fits C Z σ ρ H S (.ok a ρ1) Q) (r : Rel C.K Z1 σ H1 ρ1) (f : Fr Z σ ρ H Z1 σ ρ1 H1) (x : Ext H1 H2)
    (q : S ρ1 Z1 H2 a u) : Q u H2 := h u H2 Z1 (x.rel r) (f.trans x.fr) q
theorem ResR.vl0 {K : PySem.W.Frag} {Z Z0 : Zs} {σ : St} {H H' H0 : Hp} {ρ ρ0 : Rho} (r : Rel K Z σ H ρ) (f : Fr Z0 σ ρ0 H0 Z σ ρ H) {w : Vl} {v : V} (h : ResR K Z H H' w v) : VlR K σ ρ H0 Z H' w v := (h.vl r).start fun p e => f.fresh e

/-! ### argument lists -/
def mNil (ρ : Rho) : Out (List Vl) := .ok [] ρ
def mCons (ma : Rho → Out Vl) (mr : Rho → Out (List Vl)) (ρ : Rho) : Out (List Vl) := (ma ρ).bind fun x ρ1 => (mr ρ1).bind fun xs ρ2 => .ok (x :: xs) ρ2
theorem va_nil : VA X cv W [] mNil := PA.imp pa_nil fun σ H Q ⟨Z, ρ, r, h⟩ => h.ret r .nil
theorem va_cons {e : Expr} {es : List Expr} {ma : Rho → Out Vl} {mr : Rho → Out (List Vl)} (ha : VE X cv W e ma) (hr : VA X cv W es mr) (hs : starEach (e :: es) X.env = (false, eval e X.env) :: starEach es X.env) : VA X cv W (e :: es) (mCons ma mr) :=
  PA.imp (pa_cons ha hr hs) fun σ H Q ⟨Z, ρ, r, h⟩ => tV.bind1 (σ0 := σ) r Fr.refl h fun v ρ1 u H1 Z1 r1 f1 q1 h1 => tA.bind1 r1 f1 h1 fun vs ρ2 us H2 Z2 r2 f2 q2 h2 =>
    h2.fin r2 (f1.trans f2) Ext.refl (.cons (q1.keep r1 f2) (q2.start fun p e => f1.fresh e))

/-! ### displays -/
def mTup (m : Rho → Out (List Vl)) (ρ : Rho) : Out Vl := (m ρ).bind fun vs ρ1 => (oOf (frzs vs ρ1) ρ1 : Out _).bind fun p _ => if p.1.length ≤ 1000 then .ok (.d (.tuple p.1)) p.2 else .st
def mLst (m : Rho → Out (List Vl)) (ρ : Rho) : Out Vl := (m ρ).bind fun vs ρ1 => (oOf (frzs vs ρ1) ρ1 : Out _).bind fun p _ => if p.1.length ≤ 1000 then .ok (.n (.lst p.1)) p.2 else .st
theorem line1000 {n : Nat} (h : n ≤ 1000) : n ≤ sizeLine := by rw [sizeLine_eq]; omega
theorem ve_tup {es : List Expr} {i : Nat} {pos : Pos} {m : Rho → Out (List Vl)} (h : VA X cv W es m) : VE X cv W (.Tuple es i pos) (mTup m) :=
  PE.imp (pe_tup h) fun σ H Q ⟨Z, ρ, r, h⟩ => tA.bind1 r Fr.refl h fun vs ρ1 us H1 Z1 r1 f1 q1 h1 => by
    cases e : frzs vs ρ1 with
    | none => rw [e] at h1; exact h1.elim
    | some p =>
      obtain ⟨xs, ρ2⟩ := p
      rw [e] at h1
      have h1 : Fits _ _ _ _ _ _ (if xs.length ≤ 1000 then _ else _) _ := h1
      split at h1
      · rename_i hl
        obtain ⟨Z2, r2, f2, q2, _, _⟩ := frzs_ok r1 f1 q1.w e
        exact ⟨by rw [q2.length]; exact line1000 hl, fun p np => h1.fin r2 f2 (Ext.new np) (tup_or np q2)⟩
      · exact h1.elim
theorem ve_lst {es : List Expr} {pos : Pos} {m : Rho → Out (List Vl)} (h : VA X cv W es m) : VE X cv W (.List es pos) (mLst m) :=
  PE.imp (pe_lst h) fun σ H Q ⟨Z, ρ, r, h⟩ => tA.bind1 r Fr.refl h fun vs ρ1 us H1 Z1 r1 f1 q1 h1 => by
    cases e : frzs vs ρ1 with
    | none => rw [e] at h1; exact h1.elim
    | some p =>
      obtain ⟨xs, ρ2⟩ := p
      rw [e] at h1
      have h1 : Fits _ _ _ _ _ _ (if xs.length ≤ 1000 then _ else _) _ := h1
      split at h1
      · rename_i hl
        obtain ⟨Z2, r2, f2, q2, _, _⟩ := frzs_ok r1 f1 q1.w e
        refine ⟨by rw [q2.length]; exact line1000 hl, fun p np => h1.fin r2 f2 (Ext.new np) ?_⟩
        exact ResR.vl0 r2 f2 (w := .n (.lst xs)) ⟨p, _, rfl, np, upd_same, _, rfl, q2.keep (Ext.new np).kp⟩
      · exact h1.elim

/-! ### subscripts -/
def gIx : D → D → Option Vl
  | .list xs, .int i => (atI xs i).map .d
  | .tuple xs, .int i => (atI xs i).map .d
  | .str z, .int i => if z.length ≤ sizeLine then (atI z.cps.toList i).map fun c => .d (.str ⟨#[c]⟩) else none
  | _, _ => none
theorem atI_rp {K : PySem.W.Frag} {Z : Zs} {H : Hp} {vs : List V} {xs : List D} {i : Int} {x : D} (h : RpAll K Z H vs xs) (e : atI xs i = some x) : ∃ v, atI vs i = some v ∧ Rp K Z H v x := by
  unfold atI at e ⊢
  rw [h.length]
  cases e1 : ixN xs.length i with
  | none => rw [e1] at e; cases e
  | some j =>
    rw [e1] at e
    exact h.get j e
theorem ve_ix {a b : Expr} {pos : Pos} {ma mb : Rho → Out Vl} (ha : VE X cv W a ma) (hb : VE X cv W b mb) (hs : PlainIx b) : VE X cv W (.Subscript a b pos) (mBin gIx ma mb) :=
  PE.imp (pe_ix ix_seq ha hb hs) fun σ H Q h => bin_core (fun Z H u w x y r Q hx hy e k => by
    unfold gIx at e
    split at e
    · rename_i xs i
      cases e1 : atI xs i with
      | none => rw [e1] at e; cases e
      | some z =>
        rw [e1] at e
        cases e
        obtain ⟨a, vs, rfl, h1, h2⟩ := hx
        cases hy
        obtain ⟨v, h3, h4⟩ := atI_rp h2 e1
        exact .inl ⟨a, vs, i, v, rfl, rfl, .inl (.inl h1), h3, k _ _ Ext.refl h4⟩
    · rename_i xs i
      cases e1 : atI xs i with
      | none => rw [e1] at e; cases e
      | some z =>
        rw [e1] at e
        cases e
        obtain ⟨a, vs, rfl, h1, h2⟩ := Rp.tuple hx
        cases hy
        obtain ⟨v, h3, h4⟩ := atI_rp h2 e1
        exact .inr (.inl ⟨a, vs, i, v, rfl, rfl, h1.sq, h3, k _ _ Ext.refl h4⟩)
    · rename_i z i
      split at e
      · rename_i hl
        cases e1 : atI z.cps.toList i with
        | none => rw [e1] at e; cases e
        | some c =>
          rw [e1] at e
          cases e
          cases hx
          cases hy
          exact .inr (.inr ⟨z, i, c, rfl, rfl, hl, e1, k _ _ Ext.refl (.str _)⟩)
      · cases e
    · cases e) h

/-! ### built-in functions by values -/
def rdAll (ρ : Rho) : List Vl → Option (List D)
  | [] => some []
  | v :: vs => (rd ρ v).bind fun x => (rdAll ρ vs).map fun xs => x :: xs
inductive RdVs (K : PySem.W.Frag) (Z : Zs) (H : Hp) : List V → List D → Prop
  | nil : RdVs K Z H [] []
  | cons {u us x xs} : RdV K Z H u x → RdVs K Z H us xs → RdVs K Z H (u :: us) (x :: xs)
theorem rdAll_ok {K : PySem.W.Frag} {Z : Zs} {σ : St} {H H0 : Hp} {ρ : Rho} (r : Rel K Z σ H ρ) : ∀ {vs : List Vl} {us : List V} {xs : List D}, VlsR K σ ρ H0 Z H vs us → rdAll ρ vs = some xs → RdVs K Z H us xs
  | [], _, _, h, e => by cases h; cases e; exact .nil
  | v :: vs, _, _, h, e => by
    cases h with
    | cons h1 h2 =>
      unfold rdAll at e
      cases e1 : rd ρ v with
      | none => rw [e1] at e; cases e
      | some x =>
        cases e2 : rdAll ρ vs with
        | none => rw [e1, e2] at e; cases e
        | some xs =>
          rw [e1, e2] at e
          cases e
          exact .cons (rd_ok r h1 e1) (rdAll_ok r h2 e2)
def CallOk (X : Cx) (f : Value) (g : List D → Option Vl) : Prop :=
  ∃ rr, CallR X f rr ∧ ∀ (Z : Zs) (H : Hp) (us : List V) (xs : List D) (r : Vl) (Q : VK), RdVs X.K Z H us xs → g xs = some r → (∀ v H', Ext H H' → ResR X.K Z H H' r v → Q v H') → rr us H Q
def mCall (g : List D → Option Vl) (m : Rho → Out (List Vl)) (ρ : Rho) : Out Vl := (m ρ).bind fun vs ρ1 => oOf ((rdAll ρ1 vs).bind g) ρ1
theorem call_core {rr : List V → Hp → VK → Prop} {g : List D → Option Vl} {m : Rho → Out (List Vl)}
    (hg : ∀ (Z : Zs) (H : Hp) (us : List V) (xs : List D) (r : Vl) (Q : VK), RdVs X.K Z H us xs → g xs = some r → (∀ v H', Ext H H' → ResR X.K Z H H' r v → Q v H') → rr us H Q) {σ : St} {H : Hp} {Q : VK} (h : tV (cy X cv W) (mCall g m) σ H Q) : tCB rr (tA (cy X cv W) m) σ H Q := by
  obtain ⟨Z, ρ, r, h⟩ := h
  refine tA.bind1 r Fr.refl h fun vs ρ1 us H1 Z1 r1 f1 q1 h1 => ?_
  cases e1 : rdAll ρ1 vs with
  | none => rw [e1] at h1; exact h1.elim
  | some xs =>
    rw [e1] at h1
    have h1 : Fits _ _ _ _ _ _ (oOf (g xs) ρ1) Q := h1
    cases e2 : g xs with
    | none => rw [e2] at h1; exact h1.elim
    | some w =>
      rw [e2] at h1
      exact hg Z1 H1 us xs w Q (rdAll_ok r1 q1 e1) e2 fun v H' x q => h1.fin r1 f1 x (q.vl0 r1 f1)
theorem ve_callB {x : Str} {p pos : Pos} {e : Expr} {es : List Expr} {id : String} {g : List D → Option Vl} {m : Rho → Out (List Vl)} (hc : CallOk X (.builtin id) g) (hg : Gl X x) (hm : X.mg x = none) (hv : bootBuiltins x = some (.builtin id)) (ha : VA X cv W (e :: es) m)
    (hn : x ≠ "__name__") (hdb : (x == ("__debug__" : Str)) = false) (he : starEach (e :: es) X.env = (false, eval e X.env) :: starEach es X.env) (hpl : (backTo pos (starEach es X.env)).any (·.1) = false) : VE X cv W (.Call (.Name x p) (e :: es) [] pos) (mCall g m) := by
  obtain ⟨rr, h1, h2⟩ := hc
  exact PE.imp (pe_callB h1 hg hm hv ha hn hdb he hpl) fun σ H Q h => call_core h2 h
theorem ve_callTy {x : Str} {p pos : Pos} {e : Expr} {es : List Expr} {T : String} {g : List D → Option Vl} {m : Rho → Out (List Vl)} (hc : CallOk X (.type T) g) (hg : Gl X x) (hm : X.mg x = none) (hv : bootBuiltins x = some (.type T)) (ha : VA X cv W (e :: es) m)
    (hn : x ≠ "__name__") (hdb : (x == ("__debug__" : Str)) = false) (he : starEach (e :: es) X.env = (false, eval e X.env) :: starEach es X.env) (hpl : (backTo pos (starEach es X.env)).any (·.1) = false) : VE X cv W (.Call (.Name x p) (e :: es) [] pos) (mCall g m) := by
  obtain ⟨rr, h1, h2⟩ := hc
  exact PE.imp (pe_callTy h1 hg hm hv ha hn hdb he hpl) fun σ H Q h => call_core h2 h
def gLen : List D → Option Vl
  | [.list xs] => some (.d (.int xs.length))
  | [.tuple xs] => some (.d (.int xs.length))
  | [.str z] => if z.length ≤ sizeLine then some (.d (.int z.length)) else none
  | _ => none
theorem CallR.or {f : Value} {r r' : List V → Hp → VK → Prop} (h : CallR X f r) (h' : CallR X f r') : CallR X f (fun x H Q => r x H Q ∨ r' x H Q) := fun pins s σ H xs us Q I rx q => q.elim (h pins s σ H xs us Q I rx) (h' pins s σ H xs us Q I rx)
theorem RdVs.one {K : PySem.W.Frag} {Z : Zs} {H : Hp} {us : List V} {x : D} (h : RdVs K Z H us [x]) : ∃ u, us = [u] ∧ RdV K Z H u x := by
  cases h with | cons a b => cases b; exact ⟨_, rfl, a⟩
theorem RdVs.two {K : PySem.W.Frag} {Z : Zs} {H : Hp} {us : List V} {x y : D} (h : RdVs K Z H us [x, y]) : ∃ u w, us = [u, w] ∧ RdV K Z H u x ∧ RdV K Z H w y := by
  cases h with | cons a b => cases b with | cons b c => cases c; exact ⟨_, _, rfl, a, b⟩
theorem cok_len : CallOk X (.builtin "len") gLen := ⟨_, CallR.or call_len_seq call_len_str, fun Z H us xs r Q h e k => by
  unfold gLen at e
  split at e
  · cases e
    obtain ⟨u, rfl, a, vs, rfl, h1, h2⟩ := h.one
    exact .inl ⟨a, vs, rfl, .inl (.inl (.inl h1)), by rw [h2.length]; exact k _ _ Ext.refl (.int _)⟩
  · cases e
    obtain ⟨u, rfl, hx⟩ := h.one
    obtain ⟨a, vs, rfl, h1, h2⟩ := Rp.tuple hx
    exact .inl ⟨a, vs, rfl, .inr h1.sq, by rw [h2.length]; exact k _ _ Ext.refl (.int _)⟩
  · split at e
    · rename_i hl
      cases e
      obtain ⟨u, rfl, hx⟩ := h.one
      cases hx
      exact .inr ⟨_, rfl, hl, k _ _ Ext.refl (.int _)⟩
    · cases e
  · cases e⟩
def gInt : List D → Option Vl
  | [.int i] => some (.d (.int i))
  | [.bool b] => some (.d (.int (if b then 1 else 0)))
  | _ => none
theorem cok_int : CallOk X (.type "int") gInt := ⟨_, call_int1, fun Z H us xs r Q h e k => by
  unfold gInt at e
  split at e
  · cases e
    obtain ⟨u, rfl, hx⟩ := h.one
    cases hx
    exact .inl ⟨_, rfl, k _ _ Ext.refl (.int _)⟩
  · cases e
    obtain ⟨u, rfl, hx⟩ := h.one
    cases hx
    exact .inr ⟨_, rfl, k _ _ Ext.refl (.int _)⟩
  · cases e⟩
def intsOf : List D → Option (List Int)
  | [] => some []
  | .int i :: xs => (intsOf xs).map fun ns => i :: ns
  | _ => none
theorem intsOf_map : ∀ ns : List Int, intsOf (ns.map PyData.int) = some ns
  | [] => rfl
  | n :: ns => by
    show (intsOf (ns.map PyData.int)).map _ = _
    rw [intsOf_map ns]
    rfl
theorem intsOf_eq : ∀ {xs : List D} {ns : List Int}, intsOf xs = some ns → xs = ns.map PyData.int
  | [], _, e => by cases e; rfl
  | x :: xs, ns, e => by
    cases x with
    | int i =>
      have e : (intsOf xs).map (fun ns => i :: ns) = some ns := e
      cases e1 : intsOf xs with
      | none => rw [e1] at e; cases e
      | some ms => rw [e1] at e; cases e; rw [intsOf_eq e1]; rfl
    | _ => cases e
def gSum : List D → Option Vl
  | [.list xs] => (intsOf xs).map fun ns => .d (.int ns.sum)
  | _ => none
theorem cok_sum (hc : X.calm = true) : CallOk X (.builtin "sum") gSum := ⟨_, cr_sum hc, fun Z H us xs r Q h e k => by
  unfold gSum at e
  split at e
  · rename_i xs
    cases e1 : intsOf xs with
    | none => rw [e1] at e; cases e
    | some ns =>
      rw [e1] at e
      cases e
      obtain ⟨u, rfl, a, vs, rfl, h1, h2⟩ := h.one
      rw [intsOf_eq e1] at h2
      rw [h2.ints] at h1
      exact ⟨a, ns, rfl, .inl (.inl h1), k _ _ Ext.refl (.int _)⟩
  · cases e⟩
/-- x.bit_length() -/
def gBits : D → Option Vl
  | .int i => some (.d (.int (Builtin.Int.intBits i : Nat)))
  | _ => none
theorem ve_bits {o : Expr} {apos pos : Pos} {m : Rho → Out Vl} (ho : VE X cv W o m) (hbase : attributeBase o "bit_length" X.env (eval o X.env) = eval o X.env) (hline : (apos.endLine == pos.line) = true) : VE X cv W (.Call (.Attribute o "bit_length" apos) [] [] pos) (mUn gBits m) :=
  PE.imp (pe_bits ho hbase hline) fun σ H Q ⟨Z, ρ, r, h⟩ => tV.bind1 (σ0 := σ) r Fr.refl h fun v ρ1 u H1 Z1 r1 f1 q1 h1 => by
    cases e1 : rd ρ1 v with
    | none => rw [e1] at h1; exact h1.elim
    | some x =>
      rw [e1] at h1
      have q := rd_ok r1 q1 e1
      cases x with
      | int i => cases q; exact ⟨i, rfl, h1.fin r1 f1 Ext.refl (.int _)⟩
      | _ => exact h1.elim
end
end EV
set_option maxHeartbeats 400000
namespace EV
open PySem PySem.Spec PyProof.Rows L2
section
variable {X : Cx} {cv : Nat → Value} {W : WX}

/-! ### an owned thing is changed -/
theorem upd_kp {K : PySem.W.Frag} {Z : Zs} {H : Hp} {l : Addr} {ho ho' : HO} (nz : ¬ Z l) (e : H l = some ho) (mu : (∀ p u, ho ≠ .frz p u) ∧ ∀ xs, ho ≠ .tup xs) : Kp Z Z H (upd H l ho') :=
  ⟨fun _ h => h, fun a o z h => by rw [upd_ne fun q => nz (by rw [← q]; exact z)]; exact h,
    fun a xs h => by rw [upd_ne fun q => by rw [q, e] at h; exact mu.2 _ (Option.some.inj h)]; exact h,
    fun a o u h => by rw [upd_ne fun q => by rw [q, e] at h; exact mu.1 _ _ (Option.some.inj h)]; exact h⟩
theorem Rel.change {K : PySem.W.Frag} {Z : Zs} {σ : St} {H : Hp} {ρ : Rho} (r : Rel K Z σ H ρ) {i : Nat} {m : Md} {c c' : Co} {l : Addr} {ho' : HO} (e : ρ[i]? = some (.o m c)) (es : σ[i]? = some (some (.ref l))) (hm : m ≠ .ro)
    (q : CoR K Z (upd H l ho') ho' c') : Rel K Z σ (upd H l ho') (ρ.set i (.o m c')) ∧ Fr Z σ ρ H Z σ (ρ.set i (.o m c')) (upd H l ho') := by
  obtain ⟨a, ho, h1, nz, h2, q0⟩ := r.o _ _ _ e
  rw [es] at h1; cases h1
  have kp : Kp Z Z H (upd H l ho') := upd_kp (K := K) nz h2 q0.mutable
  have hlt : i < ρ.length := (List.getElem?_eq_some_iff.mp e).1
  have get : ∀ {j : Nat} {s : Sl}, (ρ.set i (.o m c'))[j]? = some s → (j = i ∧ s = .o m c') ∨ (j ≠ i ∧ ρ[j]? = some s) := fun {j s} h => by
    by_cases ij : i = j
    · subst ij
      rw [List.getElem?_set, if_pos rfl, if_pos hlt] at h
      cases h
      exact .inl ⟨rfl, rfl⟩
    · rw [List.getElem?_set_ne ij] at h
      exact .inr ⟨fun z => ij z.symm, h⟩
  have own : ∀ b, OwnAt σ (ρ.set i (.o m c')) b → OwnAt σ ρ b := fun b ⟨j, n, d, g1, g2⟩ => by
    rcases get g1 with ⟨rfl, z⟩ | ⟨_, z⟩
    · exact ⟨j, m, c, e, g2⟩
    · exact ⟨j, n, d, z, g2⟩
  refine ⟨⟨by rw [List.length_set]; exact r.len, fun j x h => ?_, fun j n d h => ?_, fun j ns h => ?_, fun j b h => ?_, fun j k n p d d' b hj hk s1 s2 => ?_, fun a z => ?_⟩,
    ⟨fun b o h no => ?_, fun _ h => h, fun _ _ h _ => .inl h, fun b h => .inl (own b h), fun j n d h hn => ?_, fun b o h => ?_⟩⟩
  · rcases get h with ⟨_, z⟩ | ⟨_, z⟩
    · cases z
    · obtain ⟨u, g1, g2⟩ := r.d _ _ z
      exact ⟨u, g1, g2.keep kp⟩
  · rcases get h with ⟨rfl, z⟩ | ⟨ji, z⟩
    · cases z
      exact ⟨l, ho', es, nz, upd_same, q⟩
    · obtain ⟨b, hb, g1, g2, g3, g4⟩ := r.o _ _ _ z
      have bl : b ≠ l := fun x => ji (r.ap _ _ _ _ _ _ l z e (x ▸ g1) es)
      exact ⟨b, hb, g1, g2, by rw [upd_ne bl]; exact g3, g4.keep kp⟩
  · rcases get h with ⟨_, z⟩ | ⟨_, z⟩
    · cases z
    · obtain ⟨b, g1, g2⟩ := r.s _ _ z
      exact ⟨b, g1, g2.keep kp⟩
  · rcases get h with ⟨_, z⟩ | ⟨_, z⟩
    · cases z
    · exact r.e _ _ z
  · rcases get hj with ⟨rfl, z1⟩ | ⟨ji, z1⟩ <;> rcases get hk with ⟨rfl, z2⟩ | ⟨ki, z2⟩
    · rfl
    · exact r.ap _ _ _ _ _ _ b e z2 s1 s2
    · exact r.ap _ _ _ _ _ _ b z1 e s1 s2
    · exact r.ap _ _ _ _ _ _ b z1 z2 s1 s2
  · obtain ⟨o, g⟩ := r.zt a z
    exact ⟨o, kp.l _ _ z g⟩
  · rw [upd_ne fun x => no ⟨i, m, c, e, by rw [x]; exact es⟩]; exact h
  · by_cases ij : i = j
    · subst ij
      rw [e] at h; cases h
      exact ⟨rfl, c', by rw [List.getElem?_set, if_pos rfl, if_pos hlt], fun z => absurd z hm⟩
    · exact ⟨rfl, d, by rw [List.getElem?_set_ne ij]; exact h, fun _ => rfl⟩
  · by_cases bl : b = l
    · rw [bl]; exact ⟨ho', upd_same⟩
    · exact ⟨o, by rw [upd_ne bl]; exact h⟩

/-! ### methods that change a list -/
def MutOk (X : Cx) (id : String) (g : List D → List D → Option (List D × D)) : Prop :=
  ∃ rr, MtR X id rr ∧ ∀ (Z : Zs) (H : Hp) (l : Addr) (vs : List V) (xs : List D) (us : List V) (args ys : List D) (r : D) (Q : VK), H l = some (.lst vs) → RpAll X.K Z H vs xs → RpAll X.K Z H us args → g xs args = some (ys, r) →
    (∀ v vs', RpAll X.K Z H vs' ys → Rp X.K Z H v r → Q v (upd H l (.lst vs'))) → rr (.ref l) us H Q
def mMutEnd (i : Nat) (g : List D → List D → Option (List D × D)) (args : List D) (ρ : Rho) : Out Vl :=
  match ρ[i]? with
  | some (.o m (.lst xs)) => if m = .ro then .st else match g xs args with
    | some (ys, r) => .ok (.d r) (ρ.set i (.o m (.lst ys)))
    | none => .st
  | _ => .st
def isLst (ρ : Rho) (i : Nat) : Bool :=
  match ρ[i]? with
  | some (.o _ (.lst _)) => true
  | _ => false
def mMut (i : Nat) (g : List D → List D → Option (List D × D)) (ma : Rho → Out (List Vl)) (ρ : Rho) : Out Vl :=
  if isLst ρ i = true then (ma ρ).bind fun vs ρ1 => (oOf (frzs vs ρ1) ρ1 : Out _).bind fun p _ => mMutEnd i g p.1 p.2 else .st
theorem mut_end {g : List D → List D → Option (List D × D)} {rr : V → List V → Hp → VK → Prop}
    (hg : ∀ (Z : Zs) (H : Hp) (l : Addr) (vs : List V) (xs : List D) (us : List V) (args ys : List D) (r : D) (Q : VK), H l = some (.lst vs) → RpAll X.K Z H vs xs → RpAll X.K Z H us args → g xs args = some (ys, r) →
      (∀ v vs', RpAll X.K Z H vs' ys → Rp X.K Z H v r → Q v (upd H l (.lst vs'))) → rr (.ref l) us H Q)
    {Z0 Z : Zs} {σ : St} {ρ0 ρ : Rho} {H0 H : Hp} {i : Nat} {l : Addr} {us : List V} {args : List D} {Q : VK} (es : σ[i]? = some (some (.ref l))) (r : Rel X.K Z σ H ρ) (f : Fr Z0 σ ρ0 H0 Z σ ρ H) (ha : RpAll X.K Z H us args)
    (h : Fits (cy X cv W) Z0 σ ρ0 H0 (SV X.K σ H0) (mMutEnd i g args ρ) Q) : rr (.ref l) us H Q := by
  unfold mMutEnd at h
  split at h
  · rename_i m xs em
    split at h
    · exact h.elim
    rename_i hm
    obtain ⟨a, ho, h1, nz, h2, vs, e2, q⟩ := r.o _ _ _ em
    rw [es] at h1; cases h1
    subst e2
    split at h
    · rename_i ys rv eg
      refine hg Z H l vs xs us args ys rv Q h2 q ha eg fun v vs' q1 q2 => ?_
      have kp : Kp Z Z H (upd H l (.lst vs')) := upd_kp (K := X.K) nz h2 ⟨fun _ _ z => (nomatch z), fun _ z => (nomatch z)⟩
      obtain ⟨r2, f2⟩ := r.change (ho' := .lst vs') (c' := .lst ys) em es hm ⟨vs', rfl, q1.keep kp⟩
      exact h v _ Z r2 (f.trans f2) (q2.keep kp)
    · exact h.elim
  · exact h.elim
section
variable {o e : Expr} {es : List Expr} {name x : Str} {p apos cpos : Pos} {id : String} {i : Nat} {g : List D → List D → Option (List D × D)} {m : Rho → Out (List Vl)}
theorem ve_mut (pa : PlainAttrs "list") (slot : Slot "list" name id) (hty : typeOf (.builtin id) = pure (.type "method_descriptor")) (hm : MutOk X id g)
    (hN : X.N[i]? = some x) (hv : Vis X.env.scope x) (hd : (x == ("__debug__" : Str)) = false) (hcd : (x == ("__classdict__" : Str)) = false) (ha : VA X cv W (e :: es) m)
    (hbase : attributeBase (.Name x p) name X.env (eval (.Name x p) X.env) = eval (.Name x p) X.env)
    (hfew : ((backTo cpos (starEach (e :: es) X.env)).all (fun x => !x.1) && (backToKw cpos (keywordEach [] X.env)).all (fun x => x.1.isSome)
      && decide ((e :: es).length + ([] : List Keyword).length + (if ([] : List Keyword).isEmpty then 0 else 1) < 30)) = true)
    (hline : (apos.endLine == cpos.line) = true) (hs : starEach (e :: es) X.env = (false, eval e X.env) :: starEach es X.env) (hplain : (backTo cpos (starEach es X.env)).any (·.1) = false) :
    VE X cv W (.Call (.Attribute (.Name x p) name apos) (e :: es) [] cpos) (mMut i g m) := by
  obtain ⟨rr, h1, h2⟩ := hm
  refine PE.imp (pe_bm pa slot hty h1 (pe_var hN hv hd hcd) ha hbase hfew hline hs hplain) fun σ H Q ⟨Z, ρ, r, h⟩ => ?_
  unfold mMut at h
  split at h
  · rename_i hl
    unfold isLst at hl
    split at hl
    · rename_i mm xs em
      obtain ⟨l, ho, g1, nz, g2, vs, g3, g4⟩ := r.o _ _ _ em
      subst g3
      refine ⟨.ref l, g1, .inl ⟨rfl, vs, .inl (.inl g2)⟩, tA.bind1 r Fr.refl h fun ws ρ1 us H1 Z1 r1 f1 q1 k1 => ?_⟩
      cases ef : frzs ws ρ1 with
      | none => rw [ef] at k1; exact k1.elim
      | some pr =>
        obtain ⟨args, ρ2⟩ := pr
        rw [ef] at k1
        obtain ⟨Z2, r2, f2, q2, _, _⟩ := frzs_ok r1 f1 q1.w ef
        exact mut_end h2 g1 r2 f2 q2 k1
    · cases hl
  · exact h.elim
theorem ve_mut0 (pa : PlainAttrs "list") (slot : Slot "list" name id) (hty : typeOf (.builtin id) = pure (.type "method_descriptor")) (hm : MutOk X id g)
    (hN : X.N[i]? = some x) (hv : Vis X.env.scope x) (hd : (x == ("__debug__" : Str)) = false) (hcd : (x == ("__classdict__" : Str)) = false)
    (hbase : attributeBase (.Name x p) name X.env (eval (.Name x p) X.env) = eval (.Name x p) X.env) (hline : (apos.endLine == cpos.line) = true) :
    VE X cv W (.Call (.Attribute (.Name x p) name apos) [] [] cpos) (mMut i g mNil) := by
  obtain ⟨rr, h1, h2⟩ := hm
  refine PE.imp (pe_bm0 pa slot hty h1 (pe_var hN hv hd hcd) hbase hline) fun σ H Q ⟨Z, ρ, r, h⟩ => ?_
  unfold mMut at h
  split at h
  · rename_i hl
    unfold isLst at hl
    split at hl
    · rename_i mm xs em
      obtain ⟨l, ho, g1, nz, g2, vs, g3, g4⟩ := r.o _ _ _ em
      subst g3
      exact ⟨.ref l, g1, .inl ⟨rfl, vs, .inl (.inl g2)⟩, mut_end h2 g1 r Fr.refl .nil h⟩
    · cases hl
  · exact h.elim
end
def szL : Nat := 16777216
theorem szL_eq : szL = sizeLine := sizeLine_eq.symm
def gAppend : List D → List D → Option (List D × D)
  | xs, [y] => if xs.length < szL then some (xs ++ [y], .none) else none
  | _, _ => none
def gExtend : List D → List D → Option (List D × D)
  | xs, [.list ys] => if xs.length + ys.length ≤ szL then some (xs ++ ys, .none) else none
  | _, _ => none
def gPop : List D → List D → Option (List D × D)
  | xs, [] => (xs.getLast?).map fun y => (xs.dropLast, y)
  | _, _ => none
def gReverse : List D → List D → Option (List D × D)
  | xs, [] => some (xs.reverse, .none)
  | _, _ => none
theorem mok_append : MutOk X "list.append" gAppend := ⟨_, mt_append, fun Z H l vs xs us args ys r Q h1 h2 h3 e k => by
  unfold gAppend at e
  split at e
  · split at e
    · rename_i hl
      cases e
      cases h3 with
      | cons a b =>
        cases b
        exact ⟨l, vs, _, rfl, rfl, h1, by rw [h2.length, ← szL_eq]; exact hl, k _ _ (h2.append (.cons a .nil)) .non⟩
    · cases e
  · cases e⟩
theorem mok_extend : MutOk X "list.extend" gExtend := ⟨_, mt_extend, fun Z H l vs xs us args ys r Q h1 h2 h3 e k => by
  unfold gExtend at e
  split at e
  · split at e
    · rename_i hl
      cases e
      cases h3 with
      | cons a b =>
        cases b
        obtain ⟨b, ws, rfl, g1, g2⟩ := Rp.list a
        exact ⟨l, b, vs, ws, rfl, rfl, h1, g1, by rw [h2.length, g2.length, ← szL_eq]; exact hl, k _ _ (h2.append g2) .non⟩
    · cases e
  · cases e⟩
theorem mok_pop : MutOk X "list.pop" gPop := ⟨_, mt_pop, fun Z H l vs xs us args ys r Q h1 h2 h3 e k => by
  unfold gPop at e
  split at e
  · cases e1 : xs.getLast? with
    | none => rw [e1] at e; cases e
    | some y =>
      rw [e1] at e
      cases e
      cases h3
      rw [List.getLast?_eq_getElem?] at e1
      obtain ⟨v, g1, g2⟩ := h2.get _ e1
      exact ⟨l, vs, v, rfl, rfl, h1, by rw [h2.length]; exact g1, k _ _ h2.dropLast g2⟩
  · cases e⟩
theorem mok_reverse : MutOk X "list.reverse" gReverse := ⟨_, mt_reverse, fun Z H l vs xs us args ys r Q h1 h2 h3 e k => by
  unfold gReverse at e
  split at e
  · cases e
    cases h3
    exact ⟨l, vs, rfl, rfl, h1, k _ _ h2.reverse .non⟩
  · cases e⟩

/-! ### what is walked -/
structure ItOk (K : PySem.W.Frag) (J : It) (xs : List D) (P : Zs → Hp → Prop) : Prop where
  go : ∀ (i : Nat) Z H, P Z H → i < xs.length → J.go i H
  yld : ∀ (i : Nat) Z H v H', P Z H → i < xs.length → J.yld i H v H' → ∃ x, xs[i]? = some x ∧ Ext H H' ∧ Rp K Z H' v x
  stop : ∀ (i : Nat) Z H, P Z H → xs.length ≤ i → J.stop i H
  keep : ∀ Z H Z' H', P Z H → Kp Z Z' H H' → P Z' H'
def SI (K : PySem.W.Frag) : Rho → Zs → Hp → List D → It → Prop := fun _ Z H xs J => ∃ P, ItOk K J xs P ∧ P Z H
def tI (C : Cy) (m : Rho → Out (List D)) : TI := fun σ H R => ∃ Z ρ, Rel C.K Z σ H ρ ∧ Fits C Z σ ρ H (SI C.K) (m ρ) R
def VI (X : Cx) (cv : Nat → Value) (W : WX) (tg iter : Expr) (m : Rho → Out (List D)) : Prop := PI X tg iter (tI (cy X cv W) m)
theorem PI.imp {X : Cx} {tg e : Expr} {t t' : TI} (h : PI X tg e t) (k : ∀ σ H R, t' σ H R → t σ H R) : PI X tg e t' := ⟨fun pins s σ H R I q => h.run pins s σ H R I (k σ H R q)⟩
theorem PI.or {X : Cx} {tg e : Expr} {t t' : TI} (h : PI X tg e t) (h' : PI X tg e t') : PI X tg e (fun σ H R => t σ H R ∨ t' σ H R) := ⟨fun pins s σ H R I q => q.elim (h.run pins s σ H R I) (h'.run pins s σ H R I)⟩
theorem itok_list {K : PySem.W.Frag} {a : Addr} {vs : List V} {xs : List D} : ItOk K (Itl K a) xs (fun Z H => Z a ∧ H a = some (.lst vs) ∧ RpAll K Z H vs xs) where
  go i Z H h hi := by
    obtain ⟨z, e, q⟩ := h
    obtain ⟨v, g, _⟩ := q.get i (List.getElem?_eq_getElem hi)
    exact ⟨vs, v, .inl (.inl e), g⟩
  yld i Z H v H' h hi y := by
    obtain ⟨z, e, q⟩ := h
    obtain ⟨rfl, f⟩ := y
    obtain ⟨x, g1, g2⟩ := q.getV i (f vs (.inl (.inl e)))
    exact ⟨x, g1, Ext.refl, g2⟩
  stop i Z H h hi := by
    obtain ⟨z, e, q⟩ := h
    exact ⟨vs, .inl (.inl e), by rw [q.length]; exact hi⟩
  keep Z H Z' H' h k := ⟨k.z _ h.1, k.l _ _ h.1 h.2.1, h.2.2.keep k⟩
theorem itok_tup {K : PySem.W.Frag} {a : Addr} {vs : List V} {xs : List D} : ItOk K (Itt K a) xs (fun Z H => Tp K H a vs ∧ RpAll K Z H vs xs) where
  go i Z H h hi := by
    obtain ⟨e, q⟩ := h
    obtain ⟨v, g, _⟩ := q.get i (List.getElem?_eq_getElem hi)
    exact ⟨vs, v, e.sq, g⟩
  yld i Z H v H' h hi y := by
    obtain ⟨e, q⟩ := h
    obtain ⟨rfl, f⟩ := y
    obtain ⟨x, g1, g2⟩ := q.getV i (f vs e.sq)
    exact ⟨x, g1, Ext.refl, g2⟩
  stop i Z H h hi := by
    obtain ⟨e, q⟩ := h
    exact ⟨vs, e.sq, by rw [q.length]; exact hi⟩
  keep Z H Z' H' h k := ⟨tp_keep k h.1, h.2.keep k⟩
theorem itok_scr {K : PySem.W.Frag} {a : Addr} {ns : List Int} : ItOk K (Itl K a) (ns.map PyData.int) (fun _ H => ScrAt K H a ns) where
  go i Z H h hi := by
    rw [List.length_map] at hi
    exact ⟨ns.map V.int, .int ns[i], h.sq, by rw [List.getElem?_map, List.getElem?_eq_getElem hi]; rfl⟩
  yld i Z H v H' h hi y := by
    obtain ⟨rfl, f⟩ := y
    have g := f _ h.sq
    rw [List.length_map] at hi
    rw [List.getElem?_map, List.getElem?_eq_getElem hi] at g
    cases g
    exact ⟨.int ns[i], by rw [List.getElem?_map, List.getElem?_eq_getElem hi]; rfl, Ext.refl, .int _⟩
  stop i Z H h hi := by
    exact ⟨_, h.sq, by rw [List.length_map] at hi ⊢; exact hi⟩
  keep Z H Z' H' h k := h.keep k
def rangeD (lo c : Int) (n : Nat) : List D := (List.range n).map fun (i : Nat) => PyData.int (lo + (i : Int) * c)
theorem rangeD_len (lo c : Int) (n : Nat) : (rangeD lo c n).length = n := by simp [rangeD]
theorem rangeD_get {lo c : Int} {n i : Nat} (h : i < n) : (rangeD lo c n)[i]? = some (.int (lo + (i : Int) * c)) := by
  unfold rangeD
  rw [List.getElem?_map, List.getElem?_range h]
  rfl
theorem itok_rng {K : PySem.W.Frag} {lo : Int} {n : Nat} : ItOk K (Itr lo n) (rangeD lo 1 n) (fun _ _ => True) where
  go i Z H h hi := by rw [rangeD_len] at hi; exact hi
  yld i Z H v H' h hi y := by
    rw [rangeD_len] at hi
    obtain ⟨rfl, rfl⟩ := y
    exact ⟨_, rangeD_get hi, Ext.refl, by rw [Int.mul_one]; exact .int _⟩
  stop i Z H h hi := by rw [rangeD_len] at hi; exact hi
  keep Z H Z' H' h k := trivial
theorem itok_rngC {K : PySem.W.Frag} {lo c : Int} {n : Nat} : ItOk K (Itc lo c n) (rangeD lo c n) (fun _ _ => True) where
  go i Z H h hi := by rw [rangeD_len] at hi; exact hi
  yld i Z H v H' h hi y := by
    rw [rangeD_len] at hi
    obtain ⟨rfl, rfl⟩ := y
    exact ⟨_, rangeD_get hi, Ext.refl, .int _⟩
  stop i Z H h hi := by rw [rangeD_len] at hi; exact hi
  keep Z H Z' H' h k := trivial
/-- a list, a tuple: frozen; the script. Whether it is a tuple, the items -/
def asSeq : Option (D × Rho) → Option (Bool × List D × Rho)
  | some (.list xs, ρ) => some (false, xs, ρ)
  | some (.tuple xs, ρ) => some (true, xs, ρ)
  | _ => none
def itemsOf (v : Vl) (ρ : Rho) : Option (Bool × List D × Rho) :=
  match v with
  | .s i => match ρ[i]? with
    | some (.scr ns) => some (false, ns.map PyData.int, ρ)
    | _ => asSeq (frz1 v ρ)
  | v => asSeq (frz1 v ρ)
def mSeq (m : Rho → Out Vl) (ρ : Rho) : Out (List D) := (m ρ).bind fun v ρ1 => (oOf (itemsOf v ρ1) ρ1 : Out _).bind fun p _ => .ok p.2.1 p.2.2
def SeqAt (K : PySem.W.Frag) (H : Hp) (a : Addr) : Bool → Prop
  | false => ∃ ys, SqL K H a ys
  | true => ∃ ys, SqT K H a ys
def seqIt (K : PySem.W.Frag) (a : Addr) : Bool → It
  | false => Itl K a
  | true => Itt K a
theorem seq_main {K : PySem.W.Frag} {Z0 Z : Zs} {σ : St} {ρ0 ρ ρ' : Rho} {H0 H : Hp} {v : Vl} {u : V} {xs : List D} {b : Bool} (r : Rel K Z σ H ρ) (f : Fr Z0 σ ρ0 H0 Z σ ρ H) (q : VlR K σ ρ H0 Z H v u) (e : asSeq (frz1 v ρ) = some (b, xs, ρ')) :
    ∃ Z' a, u = .ref a ∧ Rel K Z' σ H ρ' ∧ Fr Z0 σ ρ0 H0 Z' σ ρ' H ∧ SeqAt K H a b ∧ SI K ρ' Z' H xs (seqIt K a b) := by
  unfold asSeq at e
  split at e
  · rename_i ef
    cases e
    obtain ⟨Z1, r1, f1, q1, _, _⟩ := frz1_ok r f q.w ef
    cases q1 with
    | lz z h a => exact ⟨Z1, _, rfl, r1, f1, ⟨_, .inl (.inl h)⟩, _, itok_list, z, h, a⟩
  · rename_i ef
    cases e
    obtain ⟨Z1, r1, f1, q1, _, _⟩ := frz1_ok r f q.w ef
    obtain ⟨a, vs, rfl, h, q2⟩ := Rp.tuple q1
    exact ⟨Z1, a, rfl, r1, f1, ⟨_, h.sq⟩, _, itok_tup, h, q2⟩
  · cases e
theorem seq_core {K : PySem.W.Frag} {Z0 Z : Zs} {σ : St} {ρ0 ρ ρ' : Rho} {H0 H : Hp} {v : Vl} {u : V} {xs : List D} {b : Bool} (r : Rel K Z σ H ρ) (f : Fr Z0 σ ρ0 H0 Z σ ρ H) (q : VlR K σ ρ H0 Z H v u) (e : itemsOf v ρ = some (b, xs, ρ')) :
    ∃ Z' a, u = .ref a ∧ Rel K Z' σ H ρ' ∧ Fr Z0 σ ρ0 H0 Z' σ ρ' H ∧ SeqAt K H a b ∧ SI K ρ' Z' H xs (seqIt K a b) := by
  unfold itemsOf at e
  split at e
  · rename_i i
    split at e
    · rename_i ns en
      cases e
      obtain ⟨a, g1, g2⟩ := r.s _ _ en
      have q : σ[i]? = some (some u) := q
      rw [g1] at q; cases q
      exact ⟨Z, a, rfl, r, f, ⟨_, g2.sq⟩, _, itok_scr, g2⟩
    · exact seq_main r f q e
  · exact seq_main r f q e
theorem vi_seq {tg e : Expr} {m : Rho → Out Vl} (h : VE X cv W e m) : VI X cv W tg e (mSeq m) :=
  PI.imp (PI.or (pi_list h) (pi_tup h)) fun σ H R ⟨Z, ρ, r, h⟩ => by
    unfold mSeq at h
    cases em : m ρ with
    | st => rw [em] at h; exact h.elim
    | ex c ρ1 =>
      rw [em] at h
      exact .inl ⟨Z, ρ, r, by rw [em]; exact h⟩
    | ok v ρ1 =>
      rw [em] at h
      have h : Fits _ _ _ _ _ _ ((oOf (itemsOf v ρ1) ρ1 : Out _).bind _) R := h
      cases ei : itemsOf v ρ1 with
      | none => rw [ei] at h; exact h.elim
      | some p =>
        obtain ⟨b, xs, ρ2⟩ := p
        rw [ei] at h
        have h : Fits (cy X cv W) Z σ ρ H (SI X.K) (.ok xs ρ2) R := h
        cases b with
        | false =>
          refine .inl ⟨Z, ρ, r, ?_⟩
          rw [em]
          intro u H1 Z1 r1 f1 q1
          obtain ⟨Z2, a, e2, r2, f2, s2, i2⟩ := seq_core r1 f1 q1 ei
          exact ⟨a, e2, s2, h _ _ _ r2 f2 i2⟩
        | true =>
          refine .inr ⟨Z, ρ, r, ?_⟩
          rw [em]
          intro u H1 Z1 r1 f1 q1
          obtain ⟨Z2, a, e2, r2, f2, s2, i2⟩ := seq_core r1 f1 q1 ei
          exact ⟨a, e2, s2, h _ _ _ r2 f2 i2⟩
def big62 (n : Int) : Bool := decide (-(2 ^ 62) ≤ n) && decide (n < 2 ^ 62)
theorem big62_of {n : Int} (h : big62 n = true) : -(2 ^ 62) ≤ n ∧ n < 2 ^ 62 := by
  unfold big62 at h
  rw [Bool.and_eq_true, decide_eq_true_eq, decide_eq_true_eq] at h
  exact h
def mRng1 (m : Rho → Out (List Vl)) (ρ : Rho) : Out (List D) := (m ρ).bind fun vs ρ1 => match rdAll ρ1 vs with
  | some [.int n] => if big62 n = true then .ok (rangeD 0 1 n.toNat) ρ1 else .st
  | _ => .st
def mRng2 (m : Rho → Out (List Vl)) (ρ : Rho) : Out (List D) := (m ρ).bind fun vs ρ1 => match rdAll ρ1 vs with
  | some [.int i, .int j] => if big62 i = true ∧ big62 j = true then .ok (rangeD i 1 (j - i).toNat) ρ1 else .st
  | _ => .st
theorem vi_rng1 {tg a : Expr} {p pos : Pos} {m : Rho → Out (List Vl)} (hg : Gl X "range") (hm : X.mg "range" = none) (ha : VA X cv W [a] m) (hs : starEach [a] X.env = [(false, eval a X.env)]) : VI X cv W tg (.Call (.Name "range" p) [a] [] pos) (mRng1 m) :=
  PI.imp (pi_range1 hg hm ha hs) fun σ H R ⟨Z, ρ, r, h⟩ => tA.bind1 r Fr.refl h fun vs ρ1 us H1 Z1 r1 f1 q1 h1 => by
    split at h1
    · rename_i n e
      split at h1
      · rename_i hb
        obtain ⟨u, rfl, hx⟩ := (rdAll_ok r1 q1 e).one
        cases hx
        obtain ⟨b1, b2⟩ := big62_of hb
        exact ⟨n, rfl, b1, b2, h1 _ _ _ r1 f1 ⟨_, itok_rng, trivial⟩⟩
      · exact h1.elim
    · exact h1.elim
theorem vi_rng2 {tg a b : Expr} {p pos : Pos} {m : Rho → Out (List Vl)} (hg : Gl X "range") (hm : X.mg "range" = none) (ha : VA X cv W [a, b] m) (hs : starEach [a, b] X.env = [(false, eval a X.env), (false, eval b X.env)]) (hs2 : starEach [b] X.env = [(false, eval b X.env)]) :
    VI X cv W tg (.Call (.Name "range" p) [a, b] [] pos) (mRng2 m) :=
  PI.imp (pi_range2 hg hm ha hs hs2) fun σ H R ⟨Z, ρ, r, h⟩ => tA.bind1 r Fr.refl h fun vs ρ1 us H1 Z1 r1 f1 q1 h1 => by
    split at h1
    · rename_i i j e
      split at h1
      · rename_i hb
        obtain ⟨u, w, rfl, hx, hy⟩ := (rdAll_ok r1 q1 e).two
        cases hx
        cases hy
        obtain ⟨b1, b2⟩ := big62_of hb.1
        obtain ⟨b3, b4⟩ := big62_of hb.2
        exact ⟨i, j, rfl, ⟨b1, b2, b3, b4⟩, h1 _ _ _ r1 f1 ⟨_, itok_rng, trivial⟩⟩
      · exact h1.elim
    · exact h1.elim
end
end EV
set_option maxHeartbeats 400000
namespace EV
open PySem PySem.Spec PyProof.Rows L2
section
variable {X : Cx} {cv : Nat → Value} {W : WX}

/-! ### a slot is set -/
/-- what may be set -/
def mayS (ρ : Rho) (i : Nat) : Bool :=
  match ρ[i]? with
  | some .no => true
  | some (.d _) => true
  | some (.o .own _) => true
  | some (.e _) => true
  | _ => false
theorem mayS_lt {ρ : Rho} {i : Nat} (h : mayS ρ i = true) : i < ρ.length := by
  unfold mayS at h
  split at h
  · rename_i e; exact (List.getElem?_eq_some_iff.mp e).1
  · rename_i e; exact (List.getElem?_eq_some_iff.mp e).1
  · rename_i e; exact (List.getElem?_eq_some_iff.mp e).1
  · rename_i e; exact (List.getElem?_eq_some_iff.mp e).1
  · cases h
theorem mayS_bor {ρ : Rho} {i : Nat} (h : mayS ρ i = true) {m : Md} {c : Co} (e : ρ[i]? = some (.o m c)) : m = .own := by
  unfold mayS at h
  split at h
  · rename_i e2; rw [e] at e2; cases e2
  · rename_i e2; rw [e] at e2; cases e2
  · rename_i e2; rw [e] at e2; cases e2; rfl
  · rename_i e2; rw [e] at e2; cases e2
  · cases h
theorem set_get {α : Type} {l : List α} {i j : Nat} {x y : α} (h : (l.set i x)[j]? = some y) : (j = i ∧ y = x) ∨ (j ≠ i ∧ l[j]? = some y) := by
  by_cases ij : i = j
  · subst ij
    rw [List.getElem?_set, if_pos rfl] at h
    split at h
    · cases h; exact .inl ⟨rfl, rfl⟩
    · cases h
  · rw [List.getElem?_set_ne ij] at h
    exact .inr ⟨fun z => ij z.symm, h⟩
/-- what is stored -/
inductive Store (K : PySem.W.Frag) (σ : St) (ρ : Rho) (H0 : Hp) (Z : Zs) (H : Hp) : Sl → V → Prop
  | no {u} : Store K σ ρ H0 Z H .no u
  | d {x u} : Rp K Z H u x → Store K σ ρ H0 Z H (.d x) u
  | n {c a ho} : ¬ Z a → ¬ OwnAt σ ρ a → H0 a = none → H a = some ho → CoR K Z H ho c → Store K σ ρ H0 Z H (.o .own c) (.ref a)
theorem Rel.store {K : PySem.W.Frag} {Z Z0 : Zs} {σ σ0 : St} {H H0 : Hp} {ρ ρ0 : Rho} {i : Nat} {s : Sl} {u : V} {w : Option V} (r : Rel K Z σ H ρ) (f : Fr Z0 σ0 ρ0 H0 Z σ ρ H) (my : mayS ρ i = true) (q : Store K σ ρ H0 Z H s u) (hw : w = some u ∨ s = .no) :
    Rel K Z (σ.set i w) H (ρ.set i s) ∧ Fr Z0 σ0 ρ0 H0 Z (σ.set i w) (ρ.set i s) H := by
  have hlt := mayS_lt my
  have hlt2 : i < σ.length := by rw [← r.len]; exact hlt
  have gs : (σ.set i w)[i]? = some w := by rw [List.getElem?_set, if_pos rfl, if_pos hlt2]
  have gn : ∀ {j : Nat}, j ≠ i → (σ.set i w)[j]? = σ[j]? := fun {j} h => List.getElem?_set_ne (fun z => h z.symm)
  have own : ∀ {j : Nat} {m : Md} {c : Co} {a : Addr}, (ρ.set i s)[j]? = some (.o m c) → (σ.set i w)[j]? = some (some (.ref a)) → (j = i ∧ ¬ OwnAt σ ρ a ∧ H0 a = none ∧ m = .own) ∨ (j ≠ i ∧ ρ[j]? = some (.o m c) ∧ σ[j]? = some (some (.ref a))) := fun {j m c a} h1 h2 => by
    rcases set_get h1 with ⟨e1, e2⟩ | ⟨ne, e2⟩
    · subst e1
      rw [gs] at h2
      rcases hw with hw | hw
      · rw [hw] at h2
        cases h2
        subst e2
        cases q with
        | n _ no h0 _ _ => exact .inl ⟨rfl, no, h0, rfl⟩
      · rw [hw] at e2; cases e2
    · rw [gn ne] at h2
      exact .inr ⟨ne, e2, h2⟩
  have gu : s ≠ .no → (σ.set i w)[i]? = some (some u) := fun h => by
    rw [gs]
    rcases hw with hw | hw
    · rw [hw]
    · exact absurd hw h
  refine ⟨⟨by rw [List.length_set, List.length_set]; exact r.len, fun j x h => ?_, fun j m c h => ?_, fun j ns h => ?_, fun j b h => ?_, fun j k m n c d a h1 h2 h3 h4 => ?_, r.zt⟩,
    ⟨f.keep, f.zup, f.znew, fun b ⟨j, m, c, h1, h2⟩ => ?_, fun j m c h hm => ?_, f.live⟩⟩
  · rcases set_get h with ⟨e1, e2⟩ | ⟨ne, e2⟩
    · subst e1
      subst e2
      cases q with
      | d q => exact ⟨u, gu (fun z => (nomatch z)), q⟩
    · rw [gn ne]; exact r.d _ _ e2
  · rcases set_get h with ⟨e1, e2⟩ | ⟨ne, e2⟩
    · subst e1
      subst e2
      cases q with
      | n nz no h0 e q => exact ⟨_, _, gu (fun z => (nomatch z)), nz, e, q⟩
    · rw [gn ne]; exact r.o _ _ _ e2
  · rcases set_get h with ⟨e1, e2⟩ | ⟨ne, e2⟩
    · subst e2; cases q
    · rw [gn ne]; exact r.s _ _ e2
  · rcases set_get h with ⟨e1, e2⟩ | ⟨ne, e2⟩
    · subst e2; cases q
    · rw [gn ne]; exact r.e _ _ e2
  · rcases own h1 h3 with ⟨e1, no1, _⟩ | ⟨_, g1, g2⟩ <;> rcases own h2 h4 with ⟨e2, no2, _⟩ | ⟨_, g3, g4⟩
    · rw [e1, e2]
    · exact absurd ⟨k, n, d, g3, g4⟩ no1
    · exact absurd ⟨j, m, c, g1, g2⟩ no2
    · exact r.ap _ _ _ _ _ _ _ g1 g3 g2 g4
  · rcases own h1 h2 with ⟨_, _, h0, _⟩ | ⟨_, g1, g2⟩
    · exact .inr h0
    · exact f.own b ⟨j, m, c, g1, g2⟩
  · obtain ⟨g1, c', g2, g3⟩ := f.bor j m c h hm
    have ji : j ≠ i := fun z => by
      subst z
      exact hm (mayS_bor my g2)
    exact ⟨by rw [gn ji]; exact g1, c', by rw [List.getElem?_set_ne (fun z => ji z.symm)]; exact g2, g3⟩
def storeV (i : Nat) (v : Vl) (ρ : Rho) : Option Rho :=
  if mayS ρ i = true then
    match v with
    | .d x => some (ρ.set i (.d x))
    | .n c => some (ρ.set i (.o .own c))
    | .s j => match frz1 (.s j) ρ with
      | some (x, ρ1) => if mayS ρ1 i = true then some (ρ1.set i (.d x)) else none
      | none => none
  else none
theorem storeV_ok {K : PySem.W.Frag} {Z Z0 : Zs} {σ σ0 : St} {H H0 : Hp} {ρ ρ0 ρ' : Rho} {i : Nat} {v : Vl} {u : V} (r : Rel K Z σ H ρ) (f : Fr Z0 σ0 ρ0 H0 Z σ ρ H) (q : VlR K σ ρ H0 Z H v u) (e : storeV i v ρ = some ρ') :
    ∃ Z', Rel K Z' (σ.set i (some u)) H ρ' ∧ Fr Z0 σ0 ρ0 H0 Z' (σ.set i (some u)) ρ' H := by
  unfold storeV at e
  split at e
  · rename_i my
    split at e
    · cases e
      exact ⟨Z, r.store f my (.d q) (.inl rfl)⟩
    · cases e
      obtain ⟨a, ho, rfl, nz, no, h0, e2, q⟩ := q
      exact ⟨Z, r.store f my (.n nz no h0 e2 q) (.inl rfl)⟩
    · split at e
      · rename_i x ρ1 ef
        split at e
        · rename_i my2
          cases e
          obtain ⟨Z1, r1, f1, q1, _, _⟩ := frz1_ok r f q.w ef
          exact ⟨Z1, r1.store f1 my2 (.d q1) (.inl rfl)⟩
        · cases e
      · cases e
  · cases e

/-! ### targets -/
/-- the slots agree but at ts -/
def Sm (ts : List Nat) (σ σ' : St) : Prop := σ'.length = σ.length ∧ ∀ i, i ∉ ts → σ'[i]? = σ[i]?
theorem Sm.trans {ts us vs : List Nat} {σ σ1 σ2 : St} (a : Sm ts σ σ1) (b : Sm us σ1 σ2) (h1 : ∀ i ∈ ts, i ∈ vs) (h2 : ∀ i ∈ us, i ∈ vs) : Sm vs σ σ2 :=
  ⟨b.1.trans a.1, fun i h => (b.2 i fun q => h (h2 i q)).trans (a.2 i fun q => h (h1 i q))⟩
def tG (K : PySem.W.Frag) (ts : List Nat) (b : D → Rho → Option Rho) : TG := fun v σ H Q => ∃ Z ρ x ρ', Rel K Z σ H ρ ∧ Rp K Z H v x ∧ b x ρ = some ρ' ∧ ∀ σ', Sm ts σ σ' → Rel K Z σ' H ρ' → Fr Z σ ρ H Z σ' ρ' H → Q σ' H
def tGs (K : PySem.W.Frag) (ts : List Nat) (b : List D → Rho → Option Rho) : TGs := fun v σ H Q => ∃ Z ρ x ρ', Rel K Z σ H ρ ∧ RpAll K Z H v x ∧ b x ρ = some ρ' ∧ ∀ σ', Sm ts σ σ' → Rel K Z σ' H ρ' → Fr Z σ ρ H Z σ' ρ' H → Q σ' H
def VG (X : Cx) (tg : Expr) (ts : List Nat) (b : D → Rho → Option Rho) : Prop := PG X tg (tG X.K ts b)
def VGs (X : Cx) (tgs : List Expr) (ts : List Nat) (b : List D → Rho → Option Rho) : Prop := PGs X tgs (tGs X.K ts b)
theorem PG.imp {X : Cx} {e : Expr} {t t' : TG} (h : PG X e t) (k : ∀ v σ H Q, t' v σ H Q → t v σ H Q) : PG X e t' := ⟨fun pins s σ H v u Q I r q => h.run pins s σ H v u Q I r (k v σ H Q q)⟩
theorem PGs.imp {X : Cx} {e : List Expr} {t t' : TGs} (h : PGs X e t) (k : ∀ v σ H Q, t' v σ H Q → t v σ H Q) : PGs X e t' := ⟨fun pins s σ H v u Q I r q => h.run pins s σ H v u Q I r (k v σ H Q q)⟩
def bName (i : Nat) (x : D) (ρ : Rho) : Option Rho := if mayS ρ i = true then some (ρ.set i (.d x)) else none
theorem vg_name {i : Nat} {x : Str} {pos : Pos} (hN : X.N.Nodup) (hi : X.N[i]? = some x) (hx : Loc X.env.scope x) (hf : X.fn x = true ∨ X.env.scope.names.lookup x = some .local) : VG X (.Name x pos) [i] (bName i) :=
  PG.imp (pg_name hN hi hx hf) fun v σ H Q ⟨Z, ρ, y, ρ', r, q, e, k⟩ => by
    unfold bName at e
    split at e
    · rename_i my
      cases e
      obtain ⟨r2, f2⟩ := r.store (Fr.refl (Z := Z) (σ := σ) (ρ := ρ) (H := H)) my (.d q) (.inl rfl)
      exact k _ ⟨List.length_set, fun j h => List.getElem?_set_ne (fun z => h (by rw [z]; exact List.mem_singleton_self _))⟩ r2 f2
    · cases e
def bNil : List D → Rho → Option Rho
  | [], ρ => some ρ
  | _, _ => none
def bCons (b : D → Rho → Option Rho) (bs : List D → Rho → Option Rho) : List D → Rho → Option Rho
  | x :: xs, ρ => (b x ρ).bind fun ρ1 => bs xs ρ1
  | [], _ => none
def bTup (n : Nat) (bs : List D → Rho → Option Rho) : D → Rho → Option Rho
  | .tuple xs, ρ => if xs.length = n then bs xs ρ else none
  | _, _ => none
theorem vgs_nil : VGs X [] [] bNil := PGs.imp pgs_nil fun v σ H Q ⟨Z, ρ, x, ρ', r, q, e, k⟩ => by
  cases x with
  | nil => cases q; cases e; exact ⟨rfl, k _ ⟨rfl, fun _ _ => rfl⟩ r Fr.refl⟩
  | cons => cases e
theorem vgs_cons {e : Expr} {es : List Expr} {ts us : List Nat} {b : D → Rho → Option Rho} {bs : List D → Rho → Option Rho} (h1 : VG X e ts b) (h2 : VGs X es us bs) (hs : (assignEach (e :: es) X.env).map (·.2) = assign e X.env :: (assignEach es X.env).map (·.2)) : VGs X (e :: es) (ts ++ us) (bCons b bs) := by
  refine PGs.imp (pgs_cons h1 h2 hs) fun v σ H Q ⟨Z, ρ, x, ρ', r, q, e, k⟩ => ?_
  cases x with
  | nil => cases e
  | cons d ds =>
    unfold bCons at e
    dsimp only at e
    cases q with | cons a c =>
    cases e1 : b d ρ with
    | none => rw [e1] at e; cases e
    | some ρ1 =>
      rw [e1] at e
      exact ⟨_, _, rfl, Z, ρ, _, ρ1, r, a, e1, fun σ1 m1 r1 f1 => ⟨Z, ρ1, _, ρ', r1, c, e, fun σ2 m2 r2 f2 => k σ2 (m1.trans m2 (fun i h => List.mem_append_left _ h) fun i h => List.mem_append_right _ h) r2 (f1.trans f2)⟩⟩
theorem vg_tup {es : List Expr} {k : Nat} {pos : Pos} {n : Nat} {ts : List Nat} {bs : List D → Rho → Option Rho} (hc : X.calm = true) (h : VGs X es ts bs) (hn : (assignEach es X.env).length = n) (hst : (assignEach es X.env).findIdx? (·.1) = none) : VG X (.Tuple es k pos) ts (bTup n bs) := by
  refine PG.imp (pg_tup hc h hn hst) fun v σ H Q ⟨Z, ρ, x, ρ', r, q, e, k⟩ => ?_
  unfold bTup at e
  split at e
  · split at e
    · rename_i hl
      obtain ⟨a, vs, rfl, h1, h2⟩ := Rp.tuple q
      exact ⟨a, vs, rfl, h1.sq, by rw [h2.length]; exact hl, Z, ρ, _, ρ', r, h2, e, k⟩
    · cases e
  · cases e

/-! ### statements -/
inductive SR where
  | st
  | nx (ρ : Rho)
  | bk (ρ : Rho)
  | ct (ρ : Rho)
  | rt (v : Vl) (ρ : Rho)
  | ex (c : Nat) (ρ : Rho)
def FitS (C : Cy) (Z : Zs) (σ : St) (ρ : Rho) (H : Hp) (r : SR) (D : Ends) : Prop :=
  match r with
  | .st => False
  | .nx ρ' => ∀ σ' H' Z', Rel C.K Z' σ' H' ρ' → Fr Z σ ρ H Z' σ' ρ' H' → D.nx σ' H'
  | .bk ρ' => ∀ σ' H' Z', Rel C.K Z' σ' H' ρ' → Fr Z σ ρ H Z' σ' ρ' H' → D.bk σ' H'
  | .ct ρ' => ∀ σ' H' Z', Rel C.K Z' σ' H' ρ' → Fr Z σ ρ H Z' σ' ρ' H' → D.ct σ' H'
  | .rt v ρ' => ∀ u σ' H' Z', Rel C.K Z' σ' H' ρ' → Fr Z σ ρ H Z' σ' ρ' H' → VlR C.K σ' ρ' H Z' H' v u → D.rt u H'
  | .ex c ρ' => ∀ σ' H' Z', Rel C.K Z' σ' H' ρ' → Fr Z σ ρ H Z' σ' ρ' H' → C.W (C.cv c) none σ' H'
theorem FitS.later {C : Cy} {Z Z1 : Zs} {σ σ1 : St} {ρ ρ1 : Rho} {H H1 : Hp} {r : SR} {D : Ends} (h : FitS C Z σ ρ H r D) (f : Fr Z σ ρ H Z1 σ1 ρ1 H1) : FitS C Z1 σ1 ρ1 H1 r D := by
  cases r with
  | st => exact h
  | nx ρ2 => exact fun σ' H' Z' r' f' => h σ' H' Z' r' (f.trans f')
  | bk ρ2 => exact fun σ' H' Z' r' f' => h σ' H' Z' r' (f.trans f')
  | ct ρ2 => exact fun σ' H' Z' r' f' => h σ' H' Z' r' (f.trans f')
  | rt v ρ2 => exact fun u σ' H' Z' r' f' q => h u σ' H' Z' r' (f.trans f') (q.start fun p e => f.fresh e)
  | ex c ρ2 => exact fun σ' H' Z' r' f' => h σ' H' Z' r' (f.trans f')
def tS (C : Cy) (m : Rho → SR) : TS := fun D σ H => ∃ Z ρ, Rel C.K Z σ H ρ ∧ FitS C Z σ ρ H (m ρ) D
def VS (X : Cx) (cv : Nat → Value) (W : WX) (st : Stmt) (m : Rho → SR) : Prop := PS X st (tS (cy X cv W) m)
def VB (X : Cx) (cv : Nat → Value) (W : WX) (st : List Stmt) (m : Rho → SR) : Prop := PSs X st (tS (cy X cv W) m)
def Out.toS {α : Type} (x : Out α) (k : α → Rho → SR) : SR :=
  match x with
  | .st => .st
  | .ok a ρ => k a ρ
  | .ex c ρ => .ex c ρ
theorem tV.bindS {C : Cy} {Z Z1 : Zs} {σ σ1 : St} {ρ ρ1 : Rho} {H H1 : Hp} {ma : Rho → Out Vl} {k : Vl → Rho → SR} {D : Ends} {P : VK} (r : Rel C.K Z1 σ1 H1 ρ1) (f : Fr Z σ ρ H Z1 σ1 ρ1 H1) (h : FitS C Z σ ρ H ((ma ρ1).toS k) D)
    (hk : ∀ v ρ2 u H2 Z2, Rel C.K Z2 σ1 H2 ρ2 → Fr Z1 σ1 ρ1 H1 Z2 σ1 ρ2 H2 → VlR C.K σ1 ρ2 H1 Z2 H2 v u → FitS C Z σ ρ H (k v ρ2) D → P u H2) : tV C ma σ1 H1 P := by
  refine ⟨Z1, ρ1, r, ?_⟩
  cases e : ma ρ1 with
  | st => rw [e] at h; exact h
  | ex c ρ2 => rw [e] at h; exact fun H' Z' r2 f2 => h σ1 H' Z' r2 (f.trans f2)
  | ok v ρ2 =>
    rw [e] at h
    exact fun u H2 Z2 r2 f2 q2 => hk v ρ2 u H2 Z2 r2 f2 q2 h
theorem tT.bindS {C : Cy} {Z Z1 : Zs} {σ σ1 : St} {ρ ρ1 : Rho} {H H1 : Hp} {ma : Rho → Out Bool} {k : Bool → Rho → SR} {D : Ends} {P : Bool → Hp → Prop} (r : Rel C.K Z1 σ1 H1 ρ1) (f : Fr Z σ ρ H Z1 σ1 ρ1 H1) (h : FitS C Z σ ρ H ((ma ρ1).toS k) D)
    (hk : ∀ v ρ2 H2 Z2, Rel C.K Z2 σ1 H2 ρ2 → Fr Z1 σ1 ρ1 H1 Z2 σ1 ρ2 H2 → FitS C Z σ ρ H (k v ρ2) D → P v H2) : tT C ma σ1 H1 P := by
  refine ⟨Z1, ρ1, r, ?_⟩
  cases e : ma ρ1 with
  | st => rw [e] at h; exact h
  | ex c ρ2 => rw [e] at h; exact fun H' Z' r2 f2 => h σ1 H' Z' r2 (f.trans f2)
  | ok v ρ2 =>
    rw [e] at h
    intro u H2 Z2 r2 f2 q2
    cases q2
    exact hk v ρ2 H2 Z2 r2 f2 h
def mNx (ρ : Rho) : SR := .nx ρ
def mThen (m1 m2 : Rho → SR) (ρ : Rho) : SR :=
  match m1 ρ with
  | .nx ρ1 => m2 ρ1
  | r => r
theorem vb_nil : VB X cv W [] mNx := PSs.imp pss_nil fun D σ H ⟨Z, ρ, r, h⟩ => h σ H Z r Fr.refl
theorem vb_one {st : Stmt} {m : Rho → SR} (h : VS X cv W st m) : VB X cv W [st] m := pss_one h
theorem vb_cons {st : Stmt} {rest : List Stmt} {m1 m2 : Rho → SR} (h1 : VS X cv W st m1) (h2 : VB X cv W rest m2) : VB X cv W (st :: rest) (mThen m1 m2) :=
  PSs.imp (pss_cons h1 h2) fun D σ H ⟨Z, ρ, r, h⟩ => by
    refine ⟨Z, ρ, r, ?_⟩
    unfold mThen at h
    cases e : m1 ρ with
    | nx ρ1 =>
      rw [e] at h
      exact fun σ' H' Z' r' f' => ⟨Z', ρ1, r', h.later f'⟩
    | st => rw [e] at h; exact h
    | bk ρ1 => rw [e] at h; exact h
    | ct ρ1 => rw [e] at h; exact h
    | rt v ρ1 => rw [e] at h; exact h
    | ex c ρ1 => rw [e] at h; exact h
def mExpr (m : Rho → Out Vl) (ρ : Rho) : SR := (m ρ).toS fun _ ρ1 => .nx ρ1
theorem vs_expr {e : Expr} {pos : Pos} {m : Rho → Out Vl} (he : VE X cv W e m) (hs : swapsWith e none pos.line X.env = pure false) : VS X cv W (.Expr e pos) (mExpr m) :=
  PS.imp (ps_expr he hs) fun D σ H ⟨Z, ρ, r, h⟩ => tV.bindS r Fr.refl h fun v ρ1 u H1 Z1 r1 f1 q1 h1 => h1 σ H1 Z1 r1 f1
def mSet (i : Nat) (m : Rho → Out Vl) (ρ : Rho) : SR := (m ρ).toS fun v ρ1 =>
  match storeV i v ρ1 with
  | some ρ2 => .nx ρ2
  | none => .st
theorem set_core {i : Nat} {m : Rho → Out Vl} {D : Ends} {σ : St} {H : Hp} (h : tS (cy X cv W) (mSet i m) D σ H) : tV (cy X cv W) m σ H fun x H1 => gName i x σ H1 D.nx := by
  obtain ⟨Z, ρ, r, h⟩ := h
  refine tV.bindS r Fr.refl h fun v ρ1 u H1 Z1 r1 f1 q1 h1 => ?_
  split at h1
  · rename_i ρ2 e
    obtain ⟨Z2, r2, f2⟩ := storeV_ok r1 f1 q1 e
    exact h1 _ _ _ r2 f2
  · exact h1.elim
theorem vs_set {i : Nat} {x : Str} {e : Expr} {pos pos' : Pos} {m : Rho → Out Vl} (hN : X.N.Nodup) (hi : X.N[i]? = some x) (hx : Loc X.env.scope x) (he : VE X cv W e m) (hs : swapsWith e (some (.Name x pos')) pos.line X.env = pure false) (hf : X.fn x = true ∨ X.env.scope.names.lookup x = some .local) :
    VS X cv W (.Assign [.Name x pos'] e pos) (mSet i m) := PS.imp (ps_set hN hi hx he hs hf) fun D σ H h => set_core h
/-- name op= e -/
def mAug (i : Nat) (g : D → D → Option Vl) (m : Rho → Out Vl) (ρ : Rho) : SR :=
  match ρ[i]? with
  | some (.d x) => (m ρ).toS fun v ρ1 => match (rd ρ1 v).bind fun y => g x y with
    | some (.d z) => if mayS ρ1 i = true then .nx (ρ1.set i (.d z)) else .st
    | _ => .st
  | _ => .st
theorem vs_aug {i : Nat} {x : Str} {e : Expr} {op : Operator} {pos pos' : Pos} {g : D → D → Option Vl} {m : Rho → Out Vl} (hN : X.N.Nodup) (hi : X.N[i]? = some x) (hx : Loc X.env.scope x) (he : VE X cv W e m) (ho : BinOk X (inplaceOp op) g) (hf : X.fn x = true ∨ X.env.scope.names.lookup x = some .local) :
    VS X cv W (.AugAssign (.Name x pos') op e pos) (mAug i g m) := by
  obtain ⟨rr, h1, h2⟩ := ho
  refine PS.imp (ps_aug hN hi hx he (ti := rr) h1 hf) fun D σ H ⟨Z, ρ, r, h⟩ => ?_
  unfold mAug at h
  split at h
  · rename_i y ey
    obtain ⟨v0, g1, g2⟩ := r.d _ _ ey
    refine ⟨v0, g1, tV.bindS r Fr.refl h fun v ρ1 u H1 Z1 r1 f1 q1 k1 => ?_⟩
    have g2' := g2.keep (f1.kp r)
    cases e1 : rd ρ1 v with
    | none => rw [e1] at k1; exact k1.elim
    | some z =>
      rw [e1] at k1
      have k1 : FitS _ _ _ _ _ (match g y z with
        | some (.d w) => if mayS ρ1 i = true then SR.nx (ρ1.set i (.d w)) else .st
        | _ => .st) D := k1
      split at k1
      · rename_i w ew
        split at k1
        · rename_i my
          refine h2 Z1 H1 v0 u y z _ _ g2'.rdv (rd_ok r1 q1 e1) ew fun v' H' x hres => ?_
          have hres : Rp X.K Z1 H' v' w := hres
          obtain ⟨r2, f2⟩ := (x.rel r1).store (f1.trans x.fr) my (.d hres) (.inl rfl)
          exact k1 _ _ _ r2 f2
        · exact k1.elim
      · exact k1.elim
  · exact h.elim
def mRet (m : Rho → Out Vl) (ρ : Rho) : SR := (m ρ).toS fun v ρ1 => .rt v ρ1
theorem vs_ret {e : Expr} {pos : Pos} {m : Rho → Out Vl} (he : VE X cv W e m) : VS X cv W (.Return (some e) pos) (mRet m) :=
  PS.imp (ps_ret he) fun D σ H ⟨Z, ρ, r, h⟩ => tV.bindS r Fr.refl h fun v ρ1 u H1 Z1 r1 f1 q1 h1 => h1 u σ H1 Z1 r1 f1 q1
def mRetN (ρ : Rho) : SR := .rt (.d .none) ρ
theorem vs_retN {pos : Pos} : VS X cv W (.Return none pos) mRetN :=
  PS.imp ps_retN fun D σ H ⟨Z, ρ, r, h⟩ => h .non σ H Z r Fr.refl .non
def mIfS (c : Rho → Out Bool) (a b : Rho → SR) (ρ : Rho) : SR := (c ρ).toS fun k ρ1 => if k = true then a ρ1 else b ρ1
theorem vs_if {c : Expr} {a b : List Stmt} {pos : Pos} {mc : Rho → Out Bool} {ma mb : Rho → SR} (hc : VT X cv W c mc) (ha : VB X cv W a ma) (hb : VB X cv W b mb) : VS X cv W (.If c a b pos) (mIfS mc ma mb) :=
  PS.imp (ps_if hc ha hb) fun D σ H ⟨Z, ρ, r, h⟩ => tT.bindS r Fr.refl h fun k ρ1 H1 Z1 r1 f1 h1 => by
    cases k with
    | true => exact ⟨Z1, ρ1, r1, FitS.later (σ1 := σ) h1 f1⟩
    | false => exact ⟨Z1, ρ1, r1, FitS.later (σ1 := σ) h1 f1⟩
def mPass (ρ : Rho) : SR := .nx ρ
theorem vs_pass {pos : Pos} : VS X cv W (.Pass pos) mPass := PS.imp ps_pass fun D σ H ⟨Z, ρ, r, h⟩ => h σ H Z r Fr.refl
def mBrk (ρ : Rho) : SR := .bk ρ
theorem vs_break {pos : Pos} : VS X cv W (.Break pos) mBrk := PS.imp ps_break fun D σ H ⟨Z, ρ, r, h⟩ => h σ H Z r Fr.refl
def mCnt (ρ : Rho) : SR := .ct ρ
theorem vs_continue {pos : Pos} : VS X cv W (.Continue pos) mCnt := PS.imp ps_continue fun D σ H ⟨Z, ρ, r, h⟩ => h σ H Z r Fr.refl

/-! ### while -/
def whileR (c : Rho → Out Bool) (b : Rho → SR) : Nat → Rho → SR
  | 0, _ => .st
  | n + 1, ρ => (c ρ).toS fun k ρ1 => if k = true then
      (match b ρ1 with
      | .nx ρ2 => whileR c b n ρ2
      | .ct ρ2 => whileR c b n ρ2
      | .bk ρ2 => .nx ρ2
      | r => r) else .nx ρ1
theorem vs_while {c : Expr} {body : List Stmt} {pos : Pos} {mc : Rho → Out Bool} {mb : Rho → SR} (F : Rho → Nat) (hp : PassesOwn (model X.prog X.w) X.A X.env X.xe) (hc : VT X cv W c mc) (hb : VB X cv W body mb) : VS X cv W (.While c body [] pos) (fun ρ => whileR mc mb (F ρ) ρ) :=
  PS.imp (ps_while hp hc hb) fun D σ0 H0 ⟨Z0, ρ0, r0, h0⟩ => by
    refine ⟨fun m σ H => ∃ Z ρ, Rel X.K Z σ H ρ ∧ Fr Z0 σ0 ρ0 H0 Z σ ρ H ∧ FitS (cy X cv W) Z0 σ0 ρ0 H0 (whileR mc mb m ρ) D, ⟨F ρ0, Z0, ρ0, r0, Fr.refl, h0⟩, fun m σ H ⟨Z, ρ, r, f, h⟩ => ?_⟩
    cases m with
    | zero => exact h.elim
    | succ n =>
      refine tT.bindS r f h fun k ρ1 H1 Z1 r1 f1 h1 => ?_
      have f01 := f.trans f1
      cases k with
      | false => exact h1 σ H1 Z1 r1 f01
      | true =>
        have h1 : FitS (cy X cv W) Z0 σ0 ρ0 H0 (match mb ρ1 with
          | .nx ρ2 => whileR mc mb n ρ2
          | .ct ρ2 => whileR mc mb n ρ2
          | .bk ρ2 => .nx ρ2
          | r => r) D := h1
        refine ⟨fun σ' H' => ∃ Z ρ, Rel X.K Z σ' H' ρ ∧ Fr Z0 σ0 ρ0 H0 Z σ' ρ H' ∧ FitS (cy X cv W) Z0 σ0 ρ0 H0 (whileR mc mb n ρ) D, fun σ' H' q => ⟨n, Nat.lt_succ_self n, q⟩, ?_⟩
        refine ⟨Z1, ρ1, r1, ?_⟩
        cases e : mb ρ1 with
        | st => rw [e] at h1; exact h1
        | nx ρ2 => rw [e] at h1; exact fun σ' H' Z' r' f' => ⟨Z', ρ2, r', f01.trans f', h1⟩
        | ct ρ2 => rw [e] at h1; exact fun σ' H' Z' r' f' => ⟨Z', ρ2, r', f01.trans f', h1⟩
        | bk ρ2 => rw [e] at h1; exact fun σ' H' Z' r' f' => h1 σ' H' Z' r' (f01.trans f')
        | rt v ρ2 => rw [e] at h1; exact fun u σ' H' Z' r' f' q => h1 u σ' H' Z' r' (f01.trans f') (q.start fun p e => f01.fresh e)
        | ex c ρ2 => rw [e] at h1; exact fun σ' H' Z' r' f' => h1 σ' H' Z' r' (f01.trans f')

/-! ### for -/
def forR (t : D → Rho → Option Rho) (b : Rho → SR) : List D → Rho → SR
  | [], ρ => .nx ρ
  | x :: xs, ρ => match t x ρ with
    | none => .st
    | some ρ1 => match b ρ1 with
      | .nx ρ2 => forR t b xs ρ2
      | .ct ρ2 => forR t b xs ρ2
      | .bk ρ2 => .nx ρ2
      | r => r
def mFor (src : Rho → Out (List D)) (t : D → Rho → Option Rho) (b : Rho → SR) (ρ : Rho) : SR := (src ρ).toS fun xs ρ1 => forR t b xs ρ1
theorem vs_for {tg iter : Expr} {body : List Stmt} {pos : Pos} {src : Rho → Out (List D)} {ts : List Nat} {t : D → Rho → Option Rho} {mb : Rho → SR} (hp : PassesOwn (model X.prog X.w) X.A X.env X.xe) (hc : X.calm = true) (hi : VI X cv W tg iter src) (hg : VG X tg ts t) (hb : VB X cv W body mb)
    (hs : ∀ x, foldedSetIterable iter X.env x = pure x) : VS X cv W (.For tg iter body [] pos) (mFor src t mb) := by
  refine PS.imp (ps_for hp hc hi hg hb hs) fun D σ0 H0 ⟨Z0, ρ0, r0, h0⟩ => ?_
  refine ⟨Z0, ρ0, r0, ?_⟩
  unfold mFor at h0
  cases es : src ρ0 with
  | st => rw [es] at h0; exact h0
  | ex c ρ1 => rw [es] at h0; exact fun H' Z' r' f' => h0 σ0 H' Z' r' f'
  | ok xs ρ1 =>
    rw [es] at h0
    have h0 : FitS (cy X cv W) Z0 σ0 ρ0 H0 (forR t mb xs ρ1) D := h0
    intro J H1 Z1 r1 f1 ⟨P, ok, hP⟩
    refine ⟨fun i m σ H => ∃ Z ρ, i + m = xs.length ∧ Rel X.K Z σ H ρ ∧ Fr Z0 σ0 ρ0 H0 Z σ ρ H ∧ P Z H ∧ FitS (cy X cv W) Z0 σ0 ρ0 H0 (forR t mb (xs.drop i) ρ) D, ⟨xs.length, Z1, ρ1, by omega, r1, f1, hP, h0⟩, ?_⟩
    rintro i m σ H ⟨Z, ρ, em, r, f, p, h⟩
    by_cases hi : i < xs.length
    · refine .inr ⟨ok.go i Z H p hi, fun σ' H' => ∃ Z ρ, Rel X.K Z σ' H' ρ ∧ Fr Z0 σ0 ρ0 H0 Z σ' ρ H' ∧ P Z H' ∧ FitS (cy X cv W) Z0 σ0 ρ0 H0 (forR t mb (xs.drop (i + 1)) ρ) D,
        fun σ' H' ⟨Z', ρ', a, b, c, d⟩ => ⟨m - 1, by omega, Z', ρ', by omega, a, b, c, d⟩, fun v H2 y => ?_⟩
      obtain ⟨x, ex, xt, rp⟩ := ok.yld i Z H v H2 p hi y
      have ed : xs.drop i = x :: xs.drop (i + 1) := by
        rw [List.drop_eq_getElem_cons hi]
        congr 1
        rw [List.getElem?_eq_getElem hi] at ex
        exact Option.some.inj ex
      rw [ed] at h
      unfold forR at h
      split at h
      · exact h.elim
      · rename_i ρ2 et
        have r2 := xt.rel r
        have f2 : Fr Z0 σ0 ρ0 H0 Z σ ρ H2 := f.trans xt.fr
        have p2 : P Z H2 := ok.keep _ _ _ _ p xt.kp
        refine ⟨Z, ρ, x, ρ2, r2, rp, et, fun σ3 _ r3 f3' => ⟨Z, ρ2, r3, ?_⟩⟩
        have f3 := f2.trans f3'
        cases e : mb ρ2 with
        | st => rw [e] at h; exact h
        | nx ρ4 => rw [e] at h; exact fun σ' H' Z' r' f' => ⟨Z', ρ4, r', f3.trans f', ok.keep _ _ _ _ p2 (f'.kp r3), h⟩
        | ct ρ4 => rw [e] at h; exact fun σ' H' Z' r' f' => ⟨Z', ρ4, r', f3.trans f', ok.keep _ _ _ _ p2 (f'.kp r3), h⟩
        | bk ρ4 => rw [e] at h; exact fun σ' H' Z' r' f' => h σ' H' Z' r' (f3.trans f')
        | rt v ρ4 => rw [e] at h; exact fun u σ' H' Z' r' f' q => h u σ' H' Z' r' (f3.trans f') (q.start fun p e => f3.fresh e)
        | ex c ρ4 => rw [e] at h; exact fun σ' H' Z' r' f' => h σ' H' Z' r' (f3.trans f')
    · have ei : i = xs.length := by omega
      rw [List.drop_eq_nil_of_le (by omega)] at h
      exact .inl ⟨ok.stop i Z H p (by omega), h σ H Z r f⟩
end
end EV
set_option maxHeartbeats 400000
namespace EV
open PySem PySem.Spec PyProof.Rows L2

/-! ### what a def promises -/
def argSt (vs : List V) : St := vs.map some
def noOwn (as : Rho) : Prop := ∀ (i : Nat) (m : Md) (c : Co), as[i]? = some (.o m c) → m ≠ .own
def spV (K : PySem.W.Frag) (cv : Nat → Value) (n : Nat) (f : Rho → Out Vl) : Sp := fun vs H Q E =>
  ∃ Z as, as.length = n ∧ Rel K Z (argSt vs) H as ∧ noOwn as ∧ Fits ⟨K, cv, fun cls d _ H' => E cls d H'⟩ Z (argSt vs) as H (SV K (argSt vs) H) (f as) Q
theorem spV_len {K : PySem.W.Frag} {cv : Nat → Value} {n : Nat} {f : Rho → Out Vl} (vs : List V) (H : Hp) (Q : VK) (E : XK) (h : spV K cv n f vs H Q E) : vs.length = n := by
  obtain ⟨Z, as, hl, r, _⟩ := h
  have := r.len
  unfold argSt at this
  rw [List.length_map] at this
  omega

/-- room, and no repr going on -/
structure RoomG (k : Nat) (A : Around) : Prop where
  room : Room k A
  gd : A.guards = some []
theorem RoomG.mono {j k : Nat} {A : Around} (r : RoomG k A) (h : j ≤ k) : RoomG j A := ⟨r.room.mono h, r.gd⟩
theorem RoomG.deeper {k : Nat} {A : Around} (r : RoomG (k + 1) A) (env : Env) : RoomG k (A.deeper env) := ⟨r.room.deeper env, r.gd⟩
/-- what a def promises, by values -/
structure FnG (P : Program) (w : World) (K : PySem.W.Frag) (mg : Str → Option Value) (base : Heap) (cv : Nat → Value) (k : Nat) (f : Addr) (fd : FuncData) (ps : List Str) (g : Rho → Out Vl) : Prop where
  run : ∀ (A : Around) (outer : List Env) (s : Shared) (H : Hp) (args : Args) (us : List Value) (vs : List V) (Q : VK) (E : XK), RoomG k A → Env0 P w K mg base A outer s H → BindsTo s fd args (ps.zip us) → Vals vs us →
    spV K cv ps.length g vs H Q E → codeAny (model P w) A (.call (.ref f) args) (CR (L2.CX P w) outer P w H s Q E) s

section
variable {X : Cx} {cv : Nat → Value} {W : WX}
section
variable {k : Nat} {f : Addr} {fd : FuncData} {ps : List Str} {g : Rho → Out Vl}
theorem run_G {pins : List (Addr × Obj)} {σ : St} {H : Hp} {s : Shared} {Q : VK} {us : List Value} {vs : List V} (F : FnG X.prog X.w X.K X.mg X.base cv k f fd ps g) (hr : RoomG k X.A) (hb : Binds X.K fd ps []) (tk : Takes X W)
    (I : Inv X pins σ H s) (rv : Vals vs us) (h : spV X.K cv ps.length g vs H Q (WE W σ)) : wpAny (model X.prog X.w) X.A (call (.ref f) us) (EP X pins σ Q) X.xe s := by
  have hl := spV_len _ _ _ _ h
  have bind := hb s us I.kIn (by rw [List.append_nil, ← rv.length]; exact hl)
  rw [List.append_nil] at bind
  apply wpAny_call
  apply codeAny_mono (F.run X.A X.stack s H ⟨us, []⟩ us vs Q (WE W σ) hr I.env0 bind rv h)
  rintro (e | (_ | _ | _ | u)) s' q
  · exact passAt tk σ pins H s e s' I q
  · exact q.elim
  · exact q.elim
  · exact q.elim
  · exact I.after q
theorem pe_callG {x : Str} {p pos : Pos} {e : Expr} {es : List Expr} {t : TA} (F : FnG X.prog X.w X.K X.mg X.base cv k f fd ps g) (hr : RoomG k X.A) (hg : Gl X x) (hm : X.mg x = some (.ref f)) (hk : PySem.W.keepIn X.K (.ref f) = true) (hb : Binds X.K fd ps []) (tk : Takes X W)
    (ha : PA X (e :: es) t) (hdb : (x == ("__debug__" : Str)) = false) (he : starEach (e :: es) X.env = (false, eval e X.env) :: starEach es X.env) (hpl : (backTo pos (starEach es X.env)).any (·.1) = false) :
    PE X (.Call (.Name x p) (e :: es) [] pos) (tCallS (spV X.K cv ps.length g) (WE W) t) := by
  constructor
  intro pins s σ H Q I h
  apply wpAny_Call_Name_kw
  apply ld_glob I hg hm _ hdb
  refine PySem.W.callWith_K (h₀ := X.base) I.ok.mod.kin hk (thn (ha.run pos pins s σ H _ I h) ?_) he hpl
  rintro us s1 ⟨vs, H1, I1, rv, q⟩
  exact ⟨I1.kIn, run_G F hr hb tk I1 rv q⟩
end
/-! ### the call of a def: at most one argument is lent, to be changed (or the script) -/
def lent (ρ : Rho) (i : Nat) : Option Sl :=
  match ρ[i]? with
  | some (.o .own c) => some (.o .mut c)
  | some (.o .mut c) => some (.o .mut c)
  | some (.scr ns) => some (.scr ns)
  | _ => none
def given (ρ : Rho) (i : Nat) (back : Option Sl) : Option Rho :=
  match ρ[i]? with
  | some (.o m _) => match back with
    | some (.o .mut c) => some (ρ.set i (.o m c))
    | _ => none
  | some (.scr _) => some ρ
  | _ => none
def outOf (r : Out Vl) (k : Rho → Option Rho) : Out Vl :=
  match r with
  | .st => .st
  | .ok (.s _) _ => .st
  | .ok v back => match k back with
    | some ρ => .ok v ρ
    | none => .st
  | .ex c back => match k back with
    | some ρ => .ex c ρ
    | none => .st
/-- all arguments by value -/
def mCallD (n : Nat) (f : Rho → Out Vl) (m : Rho → Out (List Vl)) (ρ : Rho) : Out Vl :=
  (m ρ).bind fun vs ρ1 => (oOf (frzs vs ρ1) ρ1 : Out _).bind fun p _ => if p.1.length = n then outOf (f (p.1.map .d)) (fun _ => some p.2) else .st
/-- the argument at p is lent -/
def mCallL (n p : Nat) (f : Rho → Out Vl) (m : Rho → Out (List Vl)) (ρ : Rho) : Out Vl :=
  (m ρ).bind fun vs ρ1 => match vs[p]? with
  | some (.s i) => (oOf (frzs (vs.set p (.d .none)) ρ1) ρ1 : Out _).bind fun q _ => if q.1.length = n then
      match lent q.2 i with
      | some e => outOf (f ((q.1.map .d).set p e)) (fun back => given q.2 i back[p]?)
      | none => .st
    else .st
  | _ => .st
theorem rel_vals {K : PySem.W.Frag} {Z : Zs} {H : Hp} {us : List V} {xs : List D} (q : RpAll K Z H us xs) (zt : ∀ a, Z a → ∃ o, H a = some o) : Rel K Z (argSt us) H (xs.map .d) := by
  have get : ∀ {i : Nat} {s : Sl}, (xs.map Sl.d)[i]? = some s → ∃ x, xs[i]? = some x ∧ s = .d x := fun {i s} h => by
    rw [List.getElem?_map] at h
    cases e : xs[i]? with
    | none => rw [e] at h; cases h
    | some x => rw [e] at h; cases h; exact ⟨x, rfl, rfl⟩
  refine ⟨by unfold argSt; rw [List.length_map, List.length_map, q.length], fun i x h => ?_, fun i m c h => ?_, fun i ns h => ?_, fun i b h => ?_, fun i j m n c e a h _ _ _ => ?_, zt⟩
  · obtain ⟨y, e, e2⟩ := get h
    cases e2
    obtain ⟨u, g1, g2⟩ := q.get i e
    exact ⟨u, by unfold argSt; rw [List.getElem?_map, g1]; rfl, g2⟩
  · obtain ⟨y, e, e2⟩ := get h; cases e2
  · obtain ⟨y, e, e2⟩ := get h; cases e2
  · obtain ⟨y, e, e2⟩ := get h; cases e2
  · obtain ⟨y, e, e2⟩ := get h; cases e2
theorem noOwnAt_vals {us : St} {xs : List D} {a : Addr} : ¬ OwnAt us (xs.map Sl.d) a := fun ⟨i, m, c, h, _⟩ => by
  rw [List.getElem?_map] at h
  cases e : xs[i]? with
  | none => rw [e] at h; cases h
  | some x => rw [e] at h; cases h
/-- back from a call that was lent nothing -/
theorem back_vals {K : PySem.W.Frag} {Z Z' : Zs} {H H' : Hp} {σ : St} {ρ : Rho} {us : St} {xs : List D} {bk : Rho} (r : Rel K Z σ H ρ) (ra : Rel K Z us H (xs.map .d)) (rb : Rel K Z' us H' bk) (f : Fr Z us (xs.map .d) H Z' us bk H') :
    Rel K Z' σ H' ρ ∧ Fr Z σ ρ H Z' σ ρ H' := by
  have kp := f.kp ra
  have nz : ∀ {a o}, ¬ Z a → H a = some o → ¬ Z' a := fun {a o} nz e z => (f.znew _ _ z e).elim nz noOwnAt_vals
  have kk : ∀ {a o}, H a = some o → H' a = some o := fun {a o} e => f.keep _ _ e noOwnAt_vals
  exact ⟨⟨r.len, fun i x h => let ⟨u, e, q⟩ := r.d i x h; ⟨u, e, q.keep kp⟩, fun i m c h => let ⟨a, ho, e, z, e2, q⟩ := r.o i m c h; ⟨a, ho, e, nz z e2, kk e2, q.keep kp⟩, fun i ns h => let ⟨a, e, e2⟩ := r.s i ns h; ⟨a, e, e2.keep kp⟩, r.e, r.ap, rb.zt⟩,
    ⟨fun b o h _ => kk h, f.zup, fun b o z h => (f.znew b o z h).elim .inl fun q => absurd q noOwnAt_vals, fun b h => .inl h, fun i m c h _ => ⟨rfl, c, h, fun _ => rfl⟩, f.live⟩⟩
theorem VlR.of_call {K : PySem.W.Frag} {Z Z' : Zs} {H H' H0 : Hp} {σ σa : St} {ρ ρ' ra rb : Rho} {v : Vl} {u : V} (r : Rel K Z σ H ρ) (own : ∀ b, OwnAt σ ρ' b → OwnAt σ ρ b) (h0 : ∀ p, H p = none → H0 p = none) (q : VlR K σa rb H Z' H' v u) (ns : ∀ i, v ≠ .s i) : VlR K σ ρ' H0 Z' H' v u := by
  cases v with
  | d x => exact q
  | n c =>
    obtain ⟨a, ho, rfl, nz, _, e0, e1, q⟩ := q
    refine ⟨a, ho, rfl, nz, fun z => ?_, h0 _ e0, e1, q⟩
    obtain ⟨_, o, e, _⟩ := r.own (own _ z)
    rw [e0] at e; cases e
  | s i => exact absurd rfl (ns i)
section
variable {k n : Nat} {f : Addr} {fd : FuncData} {ps : List Str} {g : Rho → Out Vl} {x : Str} {p pos : Pos} {e : Expr} {es : List Expr} {m : Rho → Out (List Vl)}
theorem callD_core {W : WX} {σ : St} {H : Hp} {Q : VK} (hn : ps.length = n) (h : tV (cy X cv W) (mCallD n g m) σ H Q) : tCallS (spV X.K cv ps.length g) (WE W) (tA (cy X cv W) m) σ H Q := by
  obtain ⟨Z, ρ, r, h⟩ := h
  refine tA.bind1 r Fr.refl h fun vs ρ1 us H1 Z1 r1 f1 q1 h1 => ?_
  cases ef : frzs vs ρ1 with
  | none => rw [ef] at h1; exact h1.elim
  | some pr =>
    obtain ⟨xs, ρ2⟩ := pr
    rw [ef] at h1
    have h1 : Fits (cy X cv W) Z σ ρ H (SV X.K σ H) (if xs.length = n then outOf (g (xs.map .d)) (fun _ => some ρ2) else .st) Q := h1
    obtain ⟨Z2, r2, f2, q2, _, _⟩ := frzs_ok r1 f1 q1.w ef
    split at h1
    · rename_i hx
      have ra := rel_vals q2 r2.zt
      refine ⟨Z2, xs.map .d, by rw [List.length_map, hn]; exact hx, ra, fun i m c h => ?_, ?_⟩
      · rw [List.getElem?_map] at h
        cases e2 : xs[i]? with
        | none => rw [e2] at h; cases h
        | some x => rw [e2] at h; cases h
      · unfold outOf at h1
        split at h1
        · exact h1.elim
        · exact h1.elim
        · rename_i v bk hns eg
          rw [eg]
          intro u H' Z' rb fb qb
          obtain ⟨r3, f3⟩ := back_vals r2 ra rb fb
          exact h1 u H' Z' r3 (f2.trans f3) (VlR.of_call (ra := []) r2 (fun _ h => h) (fun p e => f2.fresh e) qb fun i z => hns i (by rw [z] at eg; exact z))
        · rename_i c bk eg
          rw [eg]
          intro H' Z' rb fb
          obtain ⟨r3, f3⟩ := back_vals r2 ra rb fb
          exact h1 H' Z' r3 (f2.trans f3)
    · exact h1.elim
theorem ve_call (F : FnG X.prog X.w X.K X.mg X.base cv k f fd ps g) (hn : ps.length = n) (hr : RoomG k X.A) (hg : Gl X x) (hm : X.mg x = some (.ref f)) (hk : PySem.W.keepIn X.K (.ref f) = true) (hb : Binds X.K fd ps []) (tk : Takes X W)
    (ha : VA X cv W (e :: es) m) (hdb : (x == ("__debug__" : Str)) = false) (he : starEach (e :: es) X.env = (false, eval e X.env) :: starEach es X.env) (hpl : (backTo pos (starEach es X.env)).any (·.1) = false) :
    VE X cv W (.Call (.Name x p) (e :: es) [] pos) (mCallD n g m) := PE.imp (pe_callG F hr hg hm hk hb tk ha hdb he hpl) fun σ H Q h => callD_core hn h
end
end
end EV
set_option maxHeartbeats 400000
namespace EV
open PySem PySem.Spec PyProof.Rows L2
section
variable {X : Cx} {cv : Nat → Value} {W : WX}

/-! ### lent arguments -/
theorem get_lent {xs : List D} {p : Nat} {e s : Sl} {i : Nat} (h : ((xs.map Sl.d).set p e)[i]? = some s) : (i = p ∧ s = e) ∨ (i ≠ p ∧ ∃ x, xs[i]? = some x ∧ s = .d x) := by
  rcases set_get h with ⟨a, b⟩ | ⟨a, b⟩
  · exact .inl ⟨a, b⟩
  · rw [List.getElem?_map] at b
    cases e : xs[i]? with
    | none => rw [e] at b; cases b
    | some x => rw [e] at b; cases b; exact .inr ⟨a, x, rfl, rfl⟩
theorem lent_own {us : List V} {xs : List D} {p : Nat} {e : Sl} {a l : Addr} (hu : us[p]? = some (.ref l)) (h : OwnAt (argSt us) ((xs.map Sl.d).set p e) a) : a = l := by
  obtain ⟨i, m, c, h1, h2⟩ := h
  rcases get_lent h1 with ⟨rfl, _⟩ | ⟨_, x, _, z⟩
  · unfold argSt at h2
    rw [List.getElem?_map, hu] at h2
    cases h2
    rfl
  · cases z
theorem rel_lent {K : PySem.W.Frag} {Z : Zs} {σ : St} {H : Hp} {ρ : Rho} {us : List V} {xs : List D} {p i : Nat} {e : Sl} {l : Addr} (r : Rel K Z σ H ρ) (q : RpAll K Z H (us.set p .non) xs) (hu : us[p]? = some (.ref l)) (hs : σ[i]? = some (some (.ref l))) (he : lent ρ i = some e) :
    Rel K Z (argSt us) H ((xs.map Sl.d).set p e) ∧ noOwn ((xs.map Sl.d).set p e) := by
  have hl : us.length = xs.length := by have := q.length; rwa [List.length_set] at this
  have hd : ∀ {j : Nat} {x : D}, j ≠ p → xs[j]? = some x → ∃ u, us[j]? = some u ∧ Rp K Z H u x := fun {j x} jp h => by
    obtain ⟨u, g1, g2⟩ := q.get j h
    rw [List.getElem?_set_ne (fun z => jp z.symm)] at g1
    exact ⟨u, g1, g2⟩
  have cases_e : (∃ m0 c, ρ[i]? = some (.o m0 c) ∧ m0 ≠ .ro ∧ e = .o .mut c) ∨ ∃ ns, ρ[i]? = some (.scr ns) ∧ e = .scr ns := by
    unfold lent at he
    split at he
    · rename_i c h; cases he; exact .inl ⟨_, c, h, by decide, rfl⟩
    · rename_i c h; cases he; exact .inl ⟨_, c, h, by decide, rfl⟩
    · rename_i ns h; cases he; exact .inr ⟨ns, h, rfl⟩
    · cases he
  refine ⟨⟨by unfold argSt; rw [List.length_set, List.length_map, List.length_map, hl], fun j x h => ?_, fun j m c h => ?_, fun j ns h => ?_, fun j b h => ?_, fun j k m n c d a h1 h2 _ _ => ?_, r.zt⟩, fun j m c h => ?_⟩
  · rcases get_lent h with ⟨_, z⟩ | ⟨jp, y, h1, z⟩
    · rcases cases_e with ⟨_, _, _, _, z2⟩ | ⟨_, _, z2⟩ <;> rw [z2] at z <;> cases z
    · cases z
      obtain ⟨u, g1, g2⟩ := hd jp h1
      exact ⟨u, by unfold argSt; rw [List.getElem?_map, g1]; rfl, g2⟩
  · rcases get_lent h with ⟨rfl, z⟩ | ⟨jp, y, h1, z⟩
    · rcases cases_e with ⟨m0, c0, h0, _, z2⟩ | ⟨_, _, z2⟩
      · rw [z2] at z
        cases z
        obtain ⟨a, ho, g1, g2, g3, g4⟩ := r.o _ _ _ h0
        rw [hs] at g1; cases g1
        exact ⟨l, ho, by unfold argSt; rw [List.getElem?_map, hu]; rfl, g2, g3, g4⟩
      · rw [z2] at z; cases z
    · cases z
  · rcases get_lent h with ⟨rfl, z⟩ | ⟨jp, y, h1, z⟩
    · rcases cases_e with ⟨m0, c0, h0, _, z2⟩ | ⟨ns0, h0, z2⟩
      · rw [z2] at z; cases z
      · rw [z2] at z
        cases z
        obtain ⟨a, g1, g2⟩ := r.s _ _ h0
        rw [hs] at g1; cases g1
        exact ⟨l, by unfold argSt; rw [List.getElem?_map, hu]; rfl, g2⟩
    · cases z
  · rcases get_lent h with ⟨rfl, z⟩ | ⟨jp, y, h1, z⟩
    · rcases cases_e with ⟨m0, c0, h0, _, z2⟩ | ⟨ns0, h0, z2⟩
      · rw [z2] at z; cases z
      · rw [z2] at z; cases z
    · cases z
  · rcases get_lent h1 with ⟨rfl, _⟩ | ⟨_, _, _, z⟩ <;> rcases get_lent h2 with ⟨rfl, _⟩ | ⟨_, _, _, z2⟩
    · rfl
    · cases z2
    · cases z
    · cases z
  · rcases get_lent h with ⟨rfl, z⟩ | ⟨jp, y, h1, z⟩
    · rcases cases_e with ⟨m0, c0, h0, _, z2⟩ | ⟨ns0, h0, z2⟩
      · rw [z2] at z; cases z; decide
      · rw [z2] at z; cases z
    · cases z
theorem back_lent {K : PySem.W.Frag} {Z Z' : Zs} {H H' : Hp} {σ : St} {ρ ρ3 : Rho} {us : List V} {xs : List D} {p i : Nat} {e : Sl} {l : Addr} {bk : Rho} (r : Rel K Z σ H ρ) (hu : us[p]? = some (.ref l)) (hs : σ[i]? = some (some (.ref l))) (he : lent ρ i = some e)
    (ra : Rel K Z (argSt us) H ((xs.map Sl.d).set p e)) (rb : Rel K Z' (argSt us) H' bk) (f : Fr Z (argSt us) ((xs.map Sl.d).set p e) H Z' (argSt us) bk H') (hg : given ρ i bk[p]? = some ρ3) :
    Rel K Z' σ H' ρ3 ∧ Fr Z σ ρ H Z' σ ρ3 H' ∧ ∀ b, OwnAt σ ρ3 b → OwnAt σ ρ b := by
  have kp := f.kp ra
  have aow : ∀ {b}, OwnAt (argSt us) ((xs.map Sl.d).set p e) b → b = l := fun {b} h => lent_own hu h
  have nz : ∀ {a o}, a ≠ l → ¬ Z a → H a = some o → ¬ Z' a := fun {a o} al nz e z => (f.znew _ _ z e).elim nz fun q => al (aow q)
  have kk : ∀ {a o}, a ≠ l → H a = some o → H' a = some o := fun {a o} al e => f.keep _ _ e fun q => al (aow q)
  unfold given at hg
  split at hg
  · rename_i m0 c0 hi
    split at hg
    · rename_i c' hb
      cases hg
      obtain ⟨al, ho0, g1, g2, g3, g4⟩ := r.o _ _ _ hi
      rw [hs] at g1; cases g1
      obtain ⟨b1, ho1, k1, k2, k3, k4⟩ := rb.o _ _ _ hb
      have k1' : some (V.ref l) = some (V.ref b1) := by
        unfold argSt at k1
        rw [List.getElem?_map, hu] at k1
        exact Option.some.inj k1
      cases k1'
      have mro : m0 ≠ .ro := fun z => by
        unfold lent at he
        rw [hi, z] at he
        cases he
      have hlt : i < ρ.length := (List.getElem?_eq_some_iff.mp hi).1
      have own : ∀ b, OwnAt σ (ρ.set i (.o m0 c')) b → OwnAt σ ρ b := fun b ⟨j, m, c, h1, h2⟩ => by
        rcases set_get h1 with ⟨rfl, z⟩ | ⟨_, z⟩
        · exact ⟨j, m0, c0, hi, h2⟩
        · exact ⟨j, m, c, z, h2⟩
      refine ⟨⟨by rw [List.length_set]; exact r.len, fun j x h => ?_, fun j m c h => ?_, fun j ns h => ?_, fun j b h => ?_, fun j k m n c d a h1 h2 s1 s2 => ?_, rb.zt⟩,
        ⟨fun b o h no => kk (fun z => no ⟨i, m0, c0, hi, by rw [z]; exact hs⟩) h, f.zup, fun b o z h => (f.znew b o z h).elim .inl fun q => .inr ⟨i, m0, c0, hi, by rw [aow q]; exact hs⟩, fun b h => .inl (own b h), fun j m c h hm => ?_, f.live⟩, own⟩
      · rcases set_get h with ⟨_, z⟩ | ⟨_, z⟩
        · cases z
        · obtain ⟨u, e1, q⟩ := r.d _ _ z
          exact ⟨u, e1, q.keep kp⟩
      · rcases set_get h with ⟨rfl, z⟩ | ⟨ji, z⟩
        · cases z
          exact ⟨l, ho1, hs, k2, k3, k4⟩
        · obtain ⟨b, ho, e1, e2, e3, e4⟩ := r.o _ _ _ z
          have bl : b ≠ l := fun x => ji (r.ap _ _ _ _ _ _ l z hi (by rw [← x]; exact e1) hs)
          exact ⟨b, ho, e1, nz bl e2 e3, kk bl e3, e4.keep kp⟩
      · rcases set_get h with ⟨_, z⟩ | ⟨_, z⟩
        · cases z
        · obtain ⟨b, e1, e2⟩ := r.s _ _ z
          exact ⟨b, e1, e2.keep kp⟩
      · rcases set_get h with ⟨_, z⟩ | ⟨_, z⟩
        · cases z
        · exact r.e _ _ z
      · rcases set_get h1 with ⟨rfl, z1⟩ | ⟨_, z1⟩ <;> rcases set_get h2 with ⟨rfl, z2⟩ | ⟨_, z2⟩
        · rfl
        · exact r.ap _ _ _ _ _ _ a hi z2 s1 s2
        · exact r.ap _ _ _ _ _ _ a z1 hi s1 s2
        · exact r.ap _ _ _ _ _ _ a z1 z2 s1 s2
      · by_cases ij : i = j
        · subst ij
          rw [hi] at h; cases h
          exact ⟨rfl, c', by rw [List.getElem?_set, if_pos rfl, if_pos hlt], fun z => absurd z mro⟩
        · exact ⟨rfl, c, by rw [List.getElem?_set_ne ij]; exact h, fun _ => rfl⟩
    · cases hg
  · rename_i ns hi
    cases hg
    have hne : e = .scr ns := by
      unfold lent at he
      rw [hi] at he
      cases he
      rfl
    subst hne
    have noO : ∀ b, ¬ OwnAt (argSt us) ((xs.map Sl.d).set p (.scr ns)) b := fun b ⟨j, m, c, h1, _⟩ => by
      rcases get_lent h1 with ⟨_, z⟩ | ⟨_, _, _, z⟩ <;> cases z
    have nz' : ∀ {a o}, ¬ Z a → H a = some o → ¬ Z' a := fun {a o} nz e z => (f.znew _ _ z e).elim nz (noO _)
    have kk' : ∀ {a o}, H a = some o → H' a = some o := fun {a o} e => f.keep _ _ e (noO _)
    exact ⟨⟨r.len, fun i x h => let ⟨u, e, q⟩ := r.d i x h; ⟨u, e, q.keep kp⟩, fun i m c h => let ⟨a, ho, e, z, e2, q⟩ := r.o i m c h; ⟨a, ho, e, nz' z e2, kk' e2, q.keep kp⟩, fun i ns h => let ⟨a, e, e2⟩ := r.s i ns h; ⟨a, e, e2.keep kp⟩, r.e, r.ap, rb.zt⟩,
      ⟨fun b o h _ => kk' h, f.zup, fun b o z h => (f.znew b o z h).elim .inl fun q => absurd q (noO _), fun b h => .inl h, fun i m c h _ => ⟨rfl, c, h, fun _ => rfl⟩, f.live⟩, fun _ h => h⟩
  · cases hg
theorem VlsW.set {K : PySem.W.Frag} {σ : St} {ρ : Rho} {H0 H : Hp} {Z : Zs} : ∀ {vs : List Vl} {us : List V} (p : Nat), VlsW K σ ρ H0 Z H vs us → VlsW K σ ρ H0 Z H (vs.set p (.d .none)) (us.set p .non)
  | _, _, _, .nil => .nil
  | _, _, 0, .cons _ b => .cons (show Rp _ _ _ _ _ from .non) b
  | _, _, p + 1, .cons a b => .cons a (VlsW.set p b)
theorem VlsR.at {K : PySem.W.Frag} {σ : St} {ρ : Rho} {H0 H : Hp} {Z : Zs} : ∀ {vs : List Vl} {us : List V} {p : Nat} {v : Vl}, VlsR K σ ρ H0 Z H vs us → vs[p]? = some v → ∃ u, us[p]? = some u ∧ VlR K σ ρ H0 Z H v u
  | _, _, _, _, .nil, e => by simp at e
  | _, _, 0, _, .cons a _, e => by simp at e; subst e; exact ⟨_, rfl, a⟩
  | _, _, p + 1, _, .cons _ b, e => VlsR.at (p := p) b (by rw [List.getElem?_cons_succ] at e; exact e)
section
variable {k n l : Nat} {f : Addr} {fd : FuncData} {ps : List Str} {g : Rho → Out Vl} {x : Str} {p pos : Pos} {e : Expr} {es : List Expr} {m : Rho → Out (List Vl)}
theorem ve_callL (F : FnG X.prog X.w X.K X.mg X.base cv k f fd ps g) (hpn : ps.length = n) (hr : RoomG k X.A) (hg : Gl X x) (hm : X.mg x = some (.ref f)) (hk : PySem.W.keepIn X.K (.ref f) = true) (hb : Binds X.K fd ps []) (tk : Takes X W)
    (ha : VA X cv W (e :: es) m) (hdb : (x == ("__debug__" : Str)) = false) (he : starEach (e :: es) X.env = (false, eval e X.env) :: starEach es X.env) (hpl : (backTo pos (starEach es X.env)).any (·.1) = false) :
    VE X cv W (.Call (.Name x p) (e :: es) [] pos) (mCallL n l g m) :=
  PE.imp (pe_callG F hr hg hm hk hb tk ha hdb he hpl) fun σ H Q ⟨Z, ρ, r, h⟩ => tA.bind1 r Fr.refl h fun vs ρ1 us H1 Z1 r1 f1 q1 h1 => by
    split at h1
    · rename_i i hv
      obtain ⟨ul, hul, qs⟩ := q1.at hv
      have qs : σ[i]? = some (some ul) := qs
      cases ef : frzs (vs.set l (.d .none)) ρ1 with
      | none => rw [ef] at h1; exact h1.elim
      | some pr =>
        obtain ⟨xs, ρ2⟩ := pr
        rw [ef] at h1
        have h1 : Fits (cy X cv W) Z σ ρ H (SV X.K σ H) (if xs.length = n then
          (match lent ρ2 i with
          | some e => outOf (g ((xs.map .d).set l e)) (fun back => given ρ2 i back[l]?)
          | none => .st) else .st) Q := h1
        obtain ⟨Z2, r2, f2, q2, _, _⟩ := frzs_ok r1 f1 (q1.w.set l) ef
        split at h1
        · rename_i hn
          split at h1
          · rename_i e he
            obtain ⟨la, rfl⟩ : ∃ la, ul = .ref la := by
              unfold lent at he
              split at he
              · rename_i c hi; obtain ⟨a, _, g1, _⟩ := r2.o _ _ _ hi; rw [qs] at g1; cases g1; exact ⟨_, rfl⟩
              · rename_i c hi; obtain ⟨a, _, g1, _⟩ := r2.o _ _ _ hi; rw [qs] at g1; cases g1; exact ⟨_, rfl⟩
              · rename_i c hi; obtain ⟨a, g1, _⟩ := r2.s _ _ hi; rw [qs] at g1; cases g1; exact ⟨_, rfl⟩
              · cases he
            obtain ⟨ra, no⟩ := rel_lent r2 q2 hul qs he
            refine ⟨Z2, _, by rw [List.length_set, List.length_map, hpn]; exact hn, ra, no, ?_⟩
            unfold outOf at h1
            split at h1
            · exact h1.elim
            · exact h1.elim
            · rename_i v bk hns eg
              split at h1
              · rename_i ρ3 eg3
                rw [eg]
                intro u H' Z' rb fb qb
                obtain ⟨r3, f3, o3⟩ := back_lent r2 hul qs he ra rb fb eg3
                exact h1 u H' Z' r3 (f2.trans f3) (VlR.of_call (ra := []) r2 o3 (fun p e => f2.fresh e) qb fun i z => hns i (by rw [z] at eg; exact z))
              · exact h1.elim
            · rename_i c bk eg
              split at h1
              · rename_i ρ3 eg3
                rw [eg]
                intro H' Z' rb fb
                obtain ⟨r3, f3, o3⟩ := back_lent r2 hul qs he ra rb fb eg3
                exact h1 H' Z' r3 (f2.trans f3)
              · exact h1.elim
          · exact h1.elim
        · exact h1.elim
    · exact h1.elim
end

/-! ### a def by its body -/
def backOf : Rho → Rho → Rho
  | .o m c :: as, r :: rs => r :: backOf as rs
  | s :: as, _ :: rs => s :: backOf as rs
  | as, _ => as
def exitF (as : Rho) (r : SR) : Out Vl :=
  match r with
  | .nx ρ => .ok (.d .none) (backOf as ρ)
  | .rt (.d x) ρ => .ok (.d x) (backOf as ρ)
  | .rt (.n c) ρ => .ok (.n c) (backOf as ρ)
  | .rt (.s i) ρ => match ρ[i]? with
    | some (.d x) => .ok (.d x) (backOf as ρ)
    | some (.o .own c) => .ok (.n c) (backOf as ρ)
    | _ => .st
  | .ex c ρ => .ex c (backOf as ρ)
  | _ => .st
def pad (as : Rho) (n : Nat) : Rho := as ++ List.replicate (n - as.length) .no
theorem backOf_get : ∀ {as rs : Rho} {i : Nat} {s : Sl}, (backOf as rs)[i]? = some s → ∃ a, as[i]? = some a ∧ ((∃ m c, a = .o m c ∧ (rs[i]? = some s ∨ rs[i]? = none)) ∨ ((∀ m c, a ≠ .o m c) ∧ s = a))
  | [], rs, i, s, h => by
    have h : ([] : Rho)[i]? = some s := by cases rs <;> exact h
    simp at h
  | a :: as, [], i, s, h => by
    have h : (a :: as)[i]? = some s := by cases a <;> exact h
    refine ⟨s, h, ?_⟩
    cases s with
    | o m c => exact .inl ⟨m, c, rfl, .inr (by simp)⟩
    | no => exact .inr ⟨fun _ _ z => (nomatch z), rfl⟩
    | d x => exact .inr ⟨fun _ _ z => (nomatch z), rfl⟩
    | scr x => exact .inr ⟨fun _ _ z => (nomatch z), rfl⟩
    | e x => exact .inr ⟨fun _ _ z => (nomatch z), rfl⟩
  | a :: as, r :: rs, 0, s, h => by
    cases a with
    | o m c =>
      have h : some r = some s := h
      cases h
      exact ⟨_, rfl, .inl ⟨m, c, rfl, .inl rfl⟩⟩
    | no =>
      have h : some Sl.no = some s := h
      cases h
      exact ⟨_, rfl, .inr ⟨fun _ _ z => (nomatch z), rfl⟩⟩
    | d x =>
      have h : some (Sl.d x) = some s := h
      cases h
      exact ⟨_, rfl, .inr ⟨fun _ _ z => (nomatch z), rfl⟩⟩
    | scr x =>
      have h : some (Sl.scr x) = some s := h
      cases h
      exact ⟨_, rfl, .inr ⟨fun _ _ z => (nomatch z), rfl⟩⟩
    | e x =>
      have h : some (Sl.e x) = some s := h
      cases h
      exact ⟨_, rfl, .inr ⟨fun _ _ z => (nomatch z), rfl⟩⟩
  | a :: as, r :: rs, i + 1, s, h => by
    have h : (backOf as rs)[i]? = some s := by
      cases a <;> exact h
    obtain ⟨b, e1, e2⟩ := backOf_get (i := i) h
    exact ⟨b, by rw [List.getElem?_cons_succ]; exact e1, by rw [List.getElem?_cons_succ]; exact e2⟩
theorem backOf_put : ∀ {as rs : Rho} {i : Nat} {m : Md} {c : Co} {s : Sl}, as[i]? = some (.o m c) → rs[i]? = some s → (backOf as rs)[i]? = some s
  | [], rs, i, m, c, s, h, _ => by simp at h
  | a :: as, [], i, m, c, s, _, h => by simp at h
  | a :: as, r :: rs, 0, m, c, s, h, h2 => by
    have h : some a = some (Sl.o m c) := h
    cases h
    exact h2
  | a :: as, r :: rs, i + 1, m, c, s, h, h2 => by
    rw [List.getElem?_cons_succ] at h h2
    have ih := backOf_put (i := i) h h2
    cases a <;> exact ih
theorem backOf_len : ∀ {as rs : Rho}, (backOf as rs).length = as.length
  | [], rs => by cases rs <;> rfl
  | a :: as, [] => by cases a <;> rfl
  | a :: as, r :: rs => by
    have ih := backOf_len (as := as) (rs := rs)
    cases a <;> exact congrArg Nat.succ ih
theorem get_pad {as : Rho} {n i : Nat} {s : Sl} (h : (pad as n)[i]? = some s) : as[i]? = some s ∨ s = .no := by
  unfold pad at h
  by_cases hi : i < as.length
  · rw [List.getElem?_append_left hi] at h; exact .inl h
  · rw [List.getElem?_append_right (by omega), List.getElem?_replicate] at h
    split at h
    · cases h; exact .inr rfl
    · cases h
theorem pad_get {as : Rho} {n i : Nat} {s : Sl} (h : as[i]? = some s) : (pad as n)[i]? = some s := by
  unfold pad
  rw [List.getElem?_append_left (List.getElem?_eq_some_iff.mp h).1]; exact h
theorem start_get {N : List Str} {vs : List V} {i : Nat} (h : i < vs.length) : (L2.start N vs)[i]? = (argSt vs)[i]? := by
  unfold L2.start argSt
  rw [List.getElem?_append_left (by rw [List.length_map]; exact h)]
theorem rel_start {K : PySem.W.Frag} {Z : Zs} {H : Hp} {N : List Str} {vs : List V} {as : Rho} (r : Rel K Z (argSt vs) H as) : Rel K Z (L2.start N vs) H (pad as N.length) := by
  have hl : as.length = vs.length := by have := r.len; unfold argSt at this; rwa [List.length_map] at this
  have g : ∀ {i : Nat} {s : Sl}, as[i]? = some s → (L2.start N vs)[i]? = (argSt vs)[i]? := fun {i s} h => start_get (by rw [← hl]; exact (List.getElem?_eq_some_iff.mp h).1)
  refine ⟨?_, fun i x h => ?_, fun i m c h => ?_, fun i ns h => ?_, fun i b h => ?_, fun i j m n c e a h1 h2 s1 s2 => ?_, r.zt⟩
  · unfold pad L2.start
    rw [List.length_append, List.length_append, List.length_replicate, List.length_replicate, List.length_map, hl]
  · rcases get_pad h with h | h
    · rw [g h]; exact r.d _ _ h
    · cases h
  · rcases get_pad h with h | h
    · rw [g h]; exact r.o _ _ _ h
    · cases h
  · rcases get_pad h with h | h
    · rw [g h]; exact r.s _ _ h
    · cases h
  · rcases get_pad h with h | h
    · rw [g h]; exact r.e _ _ h
    · cases h
  · rcases get_pad h1 with h1 | h1
    · rcases get_pad h2 with h2 | h2
      · rw [g h1] at s1
        rw [g h2] at s2
        exact r.ap _ _ _ _ _ _ _ h1 h2 s1 s2
      · cases h2
    · cases h1
/-- what the caller sees when the body has ended -/
theorem rel_exit {K : PySem.W.Frag} {Z Z' : Zs} {H H' : Hp} {N : List Str} {vs : List V} {as ρ' : Rho} {σ' : St} (r : Rel K Z (argSt vs) H as) (no : noOwn as) (r' : Rel K Z' σ' H' ρ') (f : Fr Z (L2.start N vs) (pad as N.length) H Z' σ' ρ' H') :
    Rel K Z' (argSt vs) H' (backOf as ρ') ∧ Fr Z (argSt vs) as H Z' (argSt vs) (backOf as ρ') H' ∧ ∀ (a : Addr) (i : Nat) (c : Co), ρ'[i]? = some (.o .own c) → σ'[i]? = some (some (.ref a)) → ¬ OwnAt (argSt vs) (backOf as ρ') a ∧ H a = none := by
  have hl : as.length = vs.length := by have := r.len; unfold argSt at this; rwa [List.length_map] at this
  have g : ∀ {i : Nat} {s : Sl}, as[i]? = some s → (L2.start N vs)[i]? = (argSt vs)[i]? := fun {i s} h => start_get (by rw [← hl]; exact (List.getElem?_eq_some_iff.mp h).1)
  have own1 : ∀ {b}, OwnAt (L2.start N vs) (pad as N.length) b → OwnAt (argSt vs) as b := fun {b} ⟨i, m, c, h1, h2⟩ => by
    rcases get_pad h1 with h1 | h1
    · exact ⟨i, m, c, h1, by rw [← g h1]; exact h2⟩
    · cases h1
  have own2 : ∀ {b}, OwnAt (argSt vs) as b → OwnAt (L2.start N vs) (pad as N.length) b := fun {b} ⟨i, m, c, h1, h2⟩ => ⟨i, m, c, pad_get h1, by rw [g h1]; exact h2⟩
  have kp : Kp Z Z' H H' := Fr.kp f (rel_start r)
  have bor : ∀ {i : Nat} {m : Md} {c : Co}, as[i]? = some (.o m c) → σ'[i]? = (argSt vs)[i]? ∧ ∃ c', ρ'[i]? = some (.o m c') ∧ (m = .ro → c' = c) := fun {i m c} h => by
    obtain ⟨e1, e2⟩ := f.bor i m c (pad_get h) (no i m c h)
    exact ⟨e1.trans (g h), e2⟩
  have bk : ∀ {i : Nat} {s : Sl}, (backOf as ρ')[i]? = some s → (∃ m c c', as[i]? = some (.o m c) ∧ s = .o m c' ∧ ρ'[i]? = some (.o m c') ∧ σ'[i]? = (argSt vs)[i]?) ∨ (as[i]? = some s ∧ ∀ m c, s ≠ .o m c) := fun {i s} h => by
    obtain ⟨a, h1, h2⟩ := backOf_get h
    rcases h2 with ⟨m, c, rfl, h2⟩ | ⟨h2, rfl⟩
    · obtain ⟨e1, c', e2, _⟩ := bor h1
      rcases h2 with h2 | h2
      · rw [e2] at h2
        cases h2
        exact .inl ⟨m, c, c', h1, rfl, e2, e1⟩
      · rw [e2] at h2; cases h2
    · exact .inr ⟨h1, h2⟩
  have ownB : ∀ {b}, OwnAt (argSt vs) (backOf as ρ') b → OwnAt (argSt vs) as b := fun {b} ⟨i, m, c, h1, h2⟩ => by
    rcases bk h1 with ⟨m', c1, c', e1, e2, _⟩ | ⟨_, e⟩
    · exact ⟨i, m', c1, e1, h2⟩
    · exact absurd rfl (e m c)
  refine ⟨⟨by rw [backOf_len]; exact r.len, fun i x h => ?_, fun i m c h => ?_, fun i ns h => ?_, fun i b h => ?_, fun i j m n c e a h1 h2 s1 s2 => ?_, r'.zt⟩,
    ⟨fun b o h nb => f.keep b o h fun q => nb (own1 q), f.zup, fun b o z h => (f.znew b o z h).imp_right own1, fun b h => .inl (ownB h), fun i m c h hm => ?_, f.live⟩, fun a i c h1 h2 => ?_⟩
  · rcases bk h with ⟨m', c1, c', e1, e2, _⟩ | ⟨e1, _⟩
    · cases e2
    · obtain ⟨u, e, q⟩ := r.d _ _ e1
      exact ⟨u, e, q.keep kp⟩
  · rcases bk h with ⟨m', c1, c', e1, e2, e3, e4⟩ | ⟨_, e⟩
    · cases e2
      obtain ⟨a, ho, k1, k2⟩ := r'.o _ _ _ e3
      exact ⟨a, ho, by rw [← e4]; exact k1, k2⟩
    · exact absurd rfl (e m c)
  · rcases bk h with ⟨m', c1, c', e1, e2, _⟩ | ⟨e1, _⟩
    · cases e2
    · obtain ⟨a, e, q⟩ := r.s _ _ e1
      exact ⟨a, e, q.keep kp⟩
  · rcases bk h with ⟨m', c1, c', e1, e2, _⟩ | ⟨e1, _⟩
    · cases e2
    · exact r.e _ _ e1
  · rcases bk h1 with ⟨m1, c1, c1', e1, _⟩ | ⟨_, e1⟩
    · rcases bk h2 with ⟨m2, c2, c2', e2, _⟩ | ⟨_, e2⟩
      · exact r.ap _ _ _ _ _ _ _ e1 e2 s1 s2
      · exact absurd rfl (e2 _ _)
    · exact absurd rfl (e1 _ _)
  · obtain ⟨e1, c', e2, e3⟩ := bor h
    exact ⟨rfl, c', backOf_put h e2, e3⟩
  · have nb : ¬ OwnAt (argSt vs) as a := fun ⟨j, m, c0, k1, k2⟩ => by
      obtain ⟨e1, c', e2, _⟩ := bor k1
      have ij : i = j := r'.ap i j _ _ _ _ a h1 e2 h2 (by rw [e1]; exact k2)
      subst ij
      rw [h1] at e2
      cases e2
      exact no _ _ _ k1 rfl
    refine ⟨fun q => nb (ownB q), ?_⟩
    rcases f.own a ⟨i, _, c, h1, h2⟩ with q | q
    · exact absurd (own1 q) nb
    · exact q
end
end EV
set_option maxHeartbeats 400000
namespace EV
open PySem PySem.Spec PyProof.Rows L2
section
variable {X : Cx} {cv : Nat → Value} {W : WX}

/-! ### slots forgotten -/
def canWipe (ρ : Rho) (vs : List Nat) : Bool := vs.all (mayS ρ)
def wipeR (ρ : Rho) : List Nat → Rho
  | [] => ρ
  | v :: vs => (wipeR ρ vs).set v .no
theorem wipeR_len (ρ : Rho) : ∀ vs : List Nat, (wipeR ρ vs).length = ρ.length
  | [] => rfl
  | v :: vs => by unfold wipeR; rw [List.length_set, wipeR_len ρ vs]
theorem wipeR_out {ρ : Rho} {i : Nat} : ∀ {vs : List Nat}, i ∉ vs → (wipeR ρ vs)[i]? = ρ[i]?
  | [], _ => rfl
  | v :: vs, h => by
    have h1 : v ≠ i := fun e => h (by rw [e]; exact List.mem_cons_self)
    have h2 : i ∉ vs := fun m => h (List.mem_cons_of_mem _ m)
    unfold wipeR
    rw [List.getElem?_set_ne h1]
    exact wipeR_out h2
theorem wipeR_in {ρ : Rho} {i : Nat} {s : Sl} : ∀ {vs : List Nat}, i ∈ vs → (wipeR ρ vs)[i]? = some s → s = .no
  | v :: vs, h, e => by
    unfold wipeR at e
    rcases set_get e with ⟨_, z⟩ | ⟨ne, z⟩
    · exact z
    · rcases List.mem_cons.mp h with h | h
      · exact absurd h ne
      · exact wipeR_in h z
theorem wipeR_some {ρ : Rho} {i : Nat} {s : Sl} {vs : List Nat} (h : (wipeR ρ vs)[i]? = some s) : (i ∈ vs ∧ s = .no) ∨ (i ∉ vs ∧ ρ[i]? = some s) := by
  by_cases hi : i ∈ vs
  · exact .inl ⟨hi, wipeR_in hi h⟩
  · rw [wipeR_out hi] at h; exact .inr ⟨hi, h⟩
theorem canWipe_bor {ρ : Rho} {vs : List Nat} (h : canWipe ρ vs = true) {i : Nat} {m : Md} {c : Co} (hi : i ∈ vs) (e : ρ[i]? = some (.o m c)) : m = .own := by
  unfold canWipe at h
  rw [List.all_eq_true] at h
  exact mayS_bor (h i hi) e
theorem canWipe_scr {ρ : Rho} {vs : List Nat} (h : canWipe ρ vs = true) {i : Nat} {ns : List Int} (hi : i ∈ vs) (e : ρ[i]? = some (.scr ns)) : False := by
  unfold canWipe at h
  rw [List.all_eq_true] at h
  have h := h i hi
  unfold mayS at h
  rw [e] at h
  cases h
/-- from slots σ2 to slots σ that agree outside of vs, the slots of vs forgotten -/
theorem wipe_rel {K : PySem.W.Frag} {Z Z0 : Zs} {σ σ2 σ0 : St} {H H0 : Hp} {ρ ρ0 : Rho} {vs : List Nat} (r : Rel K Z σ2 H ρ) (f : Fr Z0 σ0 ρ0 H0 Z σ2 ρ H) (cw : canWipe ρ vs = true) (sm : Sm vs σ2 σ) :
    Rel K Z σ H (wipeR ρ vs) ∧ Fr Z0 σ0 ρ0 H0 Z σ (wipeR ρ vs) H := by
  have own : ∀ b, OwnAt σ (wipeR ρ vs) b → OwnAt σ2 ρ b := fun b ⟨i, m, c, h1, h2⟩ => by
    rcases wipeR_some h1 with ⟨_, z⟩ | ⟨hi, z⟩
    · cases z
    · exact ⟨i, m, c, z, by rw [← sm.2 i hi]; exact h2⟩
  refine ⟨⟨by rw [wipeR_len, sm.1]; exact r.len, fun i x h => ?_, fun i m c h => ?_, fun i ns h => ?_, fun i b h => ?_, fun i j m n c e a h1 h2 s1 s2 => ?_, r.zt⟩,
    ⟨f.keep, f.zup, f.znew, fun b h => f.own b (own b h), fun i m c h hm => ?_, f.live⟩⟩
  · rcases wipeR_some h with ⟨_, z⟩ | ⟨hi, z⟩
    · cases z
    · rw [sm.2 i hi]; exact r.d _ _ z
  · rcases wipeR_some h with ⟨_, z⟩ | ⟨hi, z⟩
    · cases z
    · rw [sm.2 i hi]; exact r.o _ _ _ z
  · rcases wipeR_some h with ⟨_, z⟩ | ⟨hi, z⟩
    · cases z
    · rw [sm.2 i hi]; exact r.s _ _ z
  · rcases wipeR_some h with ⟨_, z⟩ | ⟨hi, z⟩
    · cases z
    · rw [sm.2 i hi]; exact r.e _ _ z
  · rcases wipeR_some h1 with ⟨_, z⟩ | ⟨hi, z⟩
    · cases z
    · rcases wipeR_some h2 with ⟨_, z2⟩ | ⟨hj, z2⟩
      · cases z2
      · rw [sm.2 i hi] at s1
        rw [sm.2 j hj] at s2
        exact r.ap _ _ _ _ _ _ _ z z2 s1 s2
  · obtain ⟨e1, c', e2, e3⟩ := f.bor i m c h hm
    have hi : i ∉ vs := fun q => hm (canWipe_bor cw q e2)
    exact ⟨by rw [sm.2 i hi]; exact e1, c', by rw [wipeR_out hi]; exact e2, e3⟩
theorem wipe_sm (σ : St) (vs : List Nat) : Sm vs σ (wipe σ vs) := ⟨wipe_length σ vs, fun i h => wipe_out h⟩
theorem wipe_none {σ : St} {i : Nat} : ∀ {vs : List Nat}, i ∈ vs → i < σ.length → (wipe σ vs)[i]? = some none
  | v :: vs, h, hl => by
    unfold wipe
    by_cases e : v = i
    · subst e
      rw [List.getElem?_set, if_pos rfl, if_pos (by rw [wipe_length]; exact hl)]
    · rw [List.getElem?_set_ne e]
      rcases List.mem_cons.mp h with h | h
      · exact absurd h.symm e
      · exact wipe_none h hl
theorem wipe_eq {σ σ2 : St} {vs : List Nat} (sm : Sm vs σ σ2) : wipe σ2 vs = wipe σ vs := by
  apply List.ext_getElem?
  intro i
  by_cases hi : i ∈ vs
  · by_cases hl : i < σ.length
    · rw [wipe_none hi hl, wipe_none hi (by rw [sm.1]; exact hl)]
    · have hl2 := sm.1
      rw [List.getElem?_eq_none (by rw [wipe_length]; omega), List.getElem?_eq_none (by rw [wipe_length]; omega)]
  · rw [wipe_out hi, wipe_out hi, sm.2 i hi]
theorem Sm.symm {vs : List Nat} {σ σ2 : St} (s : Sm vs σ σ2) : Sm vs σ2 σ := ⟨s.1.symm, fun i h => (s.2 i h).symm⟩
/-- a state whose slots vs say nothing, at other such slots -/
theorem blank_rel {K : PySem.W.Frag} {Z : Zs} {σ σ2 : St} {H : Hp} {ρ : Rho} {vs : List Nat} (r : Rel K Z σ H ρ) (bl : ∀ i ∈ vs, ∀ s, ρ[i]? = some s → s = .no) (sm : Sm vs σ σ2) : Rel K Z σ2 H ρ ∧ (∀ b, OwnAt σ2 ρ b ↔ OwnAt σ ρ b) := by
  have ni : ∀ {i : Nat} {s : Sl}, ρ[i]? = some s → s ≠ .no → i ∉ vs := fun {i s} h hs q => hs (bl i q s h)
  refine ⟨⟨by rw [sm.1]; exact r.len, fun i x h => ?_, fun i m c h => ?_, fun i ns h => ?_, fun i b h => ?_, fun i j m n c e a h1 h2 s1 s2 => ?_, r.zt⟩, fun b => ⟨fun ⟨i, m, c, h1, h2⟩ => ⟨i, m, c, h1, ?_⟩, fun ⟨i, m, c, h1, h2⟩ => ⟨i, m, c, h1, ?_⟩⟩⟩
  · rw [sm.2 i (ni h (fun z => nomatch z))]; exact r.d _ _ h
  · rw [sm.2 i (ni h (fun z => nomatch z))]; exact r.o _ _ _ h
  · rw [sm.2 i (ni h (fun z => nomatch z))]; exact r.s _ _ h
  · rw [sm.2 i (ni h (fun z => nomatch z))]; exact r.e _ _ h
  · rw [sm.2 i (ni h1 (fun z => nomatch z))] at s1
    rw [sm.2 j (ni h2 (fun z => nomatch z))] at s2
    exact r.ap _ _ _ _ _ _ _ h1 h2 s1 s2
  · rw [← sm.2 i (ni h1 (fun z => nomatch z))]; exact h2
  · rw [sm.2 i (ni h1 (fun z => nomatch z))]; exact h2

/-! ### list comprehensions -/
def lcR (t : D → Rho → Option Rho) (c : Rho → Out Bool) (e : Rho → Out Vl) (vs : List Nat) : List D → Rho → List D → Out Vl
  | [], ρ, acc => .ok (.n (.lst acc)) ρ
  | x :: xs, ρ, acc => match t x ρ with
    | none => .st
    | some ρ1 => match c ρ1 with
      | .ok true ρ2 => match e ρ2 with
        | .ok v ρ3 => match frz1 v ρ3 with
          | some (y, ρ4) => if acc.length < szL ∧ canWipe ρ4 vs = true then lcR t c e vs xs (wipeR ρ4 vs) (acc ++ [y]) else .st
          | none => .st
        | _ => .st
      | .ok false ρ2 => if canWipe ρ2 vs = true then lcR t c e vs xs (wipeR ρ2 vs) acc else .st
      | _ => .st
def mLc (src : Rho → Out (List D)) (t : D → Rho → Option Rho) (c : Rho → Out Bool) (e : Rho → Out Vl) (vs : List Nat) (ρ : Rho) : Out Vl :=
  (src ρ).bind fun xs ρ1 => if canWipe ρ1 vs = true then lcR t c e vs xs (wipeR ρ1 vs) [] else .st
def WF : WX := fun _ _ _ _ => False
def VTs (X : Cx) (cv : Nat → Value) (W : WX) (ifs : List Expr) (m : Rho → Out Bool) : Prop := PTs X ifs (tT (cy X cv W) m)
theorem vts_nil : VTs X cv W [] (mB true) := ⟨fun pins s σ H Q I ⟨Z, ρ, r, h⟩ => (pts_nil (X := X)).run pins s σ H Q I (h.ret r rfl)⟩
theorem vts_one {c : Expr} {m : Rho → Out Bool} (h : VT X cv W c m) : VTs X cv W [c] m := pts_one h
theorem lc_tr {src : Rho → Out (List D)} {ts : List Nat} {t : D → Rho → Option Rho} {c : Rho → Out Bool} {e : Rho → Out Vl} {vs : List Nat} (hts : ∀ i ∈ ts, i ∈ vs) {σ : St} {H0 : Hp} {Q : VK} (h : tV (cy X cv W) (mLc src t c e vs) σ H0 Q) :
    tLc (tI (cy X cv W) src) (tG X.K ts t) (tT (cy X cv WF) c) (tV (cy X cv WF) e) vs σ H0 Q := by
  obtain ⟨Z0, ρ0, r0, h0⟩ := h
  refine ⟨Z0, ρ0, r0, ?_⟩
  unfold mLc at h0
  cases es : src ρ0 with
  | st => rw [es] at h0; exact h0
  | ex c ρ1 => rw [es] at h0; exact h0
  | ok xs ρ1 =>
    rw [es] at h0
    have h0 : Fits (cy X cv W) Z0 σ ρ0 H0 (SV X.K σ H0) (if canWipe ρ1 vs = true then lcR t c e vs xs (wipeR ρ1 vs) [] else .st) Q := h0
    intro J H1 Z1 r1 f1 ⟨P, ok, hP⟩ D hD
    split at h0
    · rename_i cw
      obtain ⟨r1', f1'⟩ := wipe_rel r1 f1 cw ⟨rfl, fun _ _ => rfl⟩
      have hD0 : H0 D = none := f1.fresh hD
      let Inn : Nat → Zs → Rho → List PyData → Hp → Prop := fun i Z ρ acc H => Rel X.K Z σ H ρ ∧ Fr Z0 σ ρ0 H0 Z σ ρ H ∧ (∀ i ∈ vs, ∀ s, ρ[i]? = some s → s = .no) ∧ P Z H ∧
        (∃ ws, H D = some (.lst ws) ∧ RpAll X.K Z H ws acc) ∧ ¬ Z D ∧ ¬ OwnAt σ ρ D ∧ Fits (cy X cv W) Z0 σ ρ0 H0 (SV X.K σ H0) (lcR t c e vs (xs.drop i) ρ acc) Q
      have kD : ∀ {Z : Zs} {o : HO}, Kp Z Z H1 (upd H1 D o) := fun {Z o} => Ext.kp (Ext.new hD)
      refine ⟨fun i m H => i + m = xs.length ∧ ∃ Z ρ acc, Inn i Z ρ acc H, ⟨xs.length, by omega, Z1, wipeR ρ1 vs, [], ?_⟩, ?_⟩
      · have x : Ext H1 (upd H1 D (.lst [])) := Ext.new hD
        refine ⟨x.rel r1', f1'.trans x.fr, fun i hi s hs => wipeR_in hi hs, ok.keep _ _ _ _ hP x.kp, ⟨[], upd_same, .nil⟩, fun z => ?_, fun z => ?_, h0⟩
        · obtain ⟨o, e2⟩ := r1'.zt _ z
          rw [hD] at e2; cases e2
        · obtain ⟨_, o, e2, _⟩ := r1'.own z
          rw [hD] at e2; cases e2
      · rintro i m H ⟨em, Z, ρ, acc, r, f, bl, p, ⟨ws, hw, qw⟩, nz, nO, h⟩
        by_cases hi : i < xs.length
        · refine .inr ⟨ok.go i Z H p hi, fun H' => ∃ Z ρ acc, Inn (i + 1) Z ρ acc H', fun H' q => ⟨m - 1, by omega, by omega, q⟩, fun v H2 y => ?_⟩
          obtain ⟨x, ex, xt, rp⟩ := ok.yld i Z H v H2 p hi y
          have ed : xs.drop i = x :: xs.drop (i + 1) := by
            rw [List.drop_eq_getElem_cons hi]
            congr 1
            rw [List.getElem?_eq_getElem hi] at ex
            exact Option.some.inj ex
          rw [ed] at h
          unfold lcR at h
          split at h
          · exact h.elim
          · rename_i ρ2 et
            obtain ⟨rb, ob⟩ := blank_rel (xt.rel r) bl (wipe_sm σ vs)
            refine ⟨Z, ρ, x, ρ2, rb, rp, et, fun σ2 sm2 r2 f2 => ?_⟩
            have sm' : Sm vs σ σ2 := (wipe_sm σ vs).trans sm2 (fun _ h => h) hts
            refine ⟨wipe_eq sm', ?_⟩
            -- what a turn keeps, told from the turn's begin
            have fin : ∀ {Z' : Zs} {ρ' : Rho} {H' : Hp}, Rel X.K Z' σ2 H' ρ' → Fr Z (wipe σ vs) ρ H2 Z' σ2 ρ' H' → canWipe ρ' vs = true →
                Rel X.K Z' σ H' (wipeR ρ' vs) ∧ Fr Z0 σ ρ0 H0 Z' σ (wipeR ρ' vs) H' ∧ P Z' H' ∧ (∃ ws, H' D = some (.lst ws) ∧ RpAll X.K Z' H' ws acc) ∧ ¬ Z' D ∧ ¬ OwnAt σ (wipeR ρ' vs) D := fun {Z' ρ' H'} r' f' cw' => by
              have ff : Fr Z σ ρ H2 Z' σ2 ρ' H' := ⟨fun b o e no => f'.keep b o e fun q => no ((ob b).mp q), f'.zup, fun b o z e => (f'.znew b o z e).imp_right (ob b).mp, fun b q => (f'.own b q).imp_left (ob b).mp, fun j m c e hm => by
                obtain ⟨g1, g2⟩ := f'.bor j m c e hm
                have nj : j ∉ vs := fun q => by have := bl j q _ e; cases this
                exact ⟨by rw [g1, wipe_out nj], g2⟩, f'.live⟩
              obtain ⟨ra, fa⟩ := wipe_rel r' ((f.trans xt.fr).trans ff) cw' sm'.symm
              have eD : H2 D = some (.lst ws) := xt _ _ hw
              have kp2 : Kp Z Z' H2 H' := f'.kp rb
              have nO2 : ¬ OwnAt (wipe σ vs) ρ D := fun q => nO ((ob D).mp q)
              refine ⟨ra, fa, ok.keep _ _ _ _ (ok.keep _ _ _ _ p xt.kp) kp2, ⟨ws, f'.keep _ _ eD nO2, (qw.keep xt.kp).keep kp2⟩, fun z => (f'.znew _ _ z eD).elim nz nO2, fun z => ?_⟩
              obtain ⟨j, m, c, g1, g2⟩ := z
              rcases wipeR_some g1 with ⟨_, q⟩ | ⟨nj, q⟩
              · cases q
              · rcases f'.own D ⟨j, m, c, q, by rw [sm'.2 j nj]; exact g2⟩ with q | q
                · exact nO2 q
                · rw [eD] at q; cases q
            have tc : tT (cy X cv WF) c σ2 H2 fun b H3 => if b = true then tV (cy X cv WF) e σ2 H3 fun y H4 => ∃ acc, H4 D = some (.lst acc) ∧ acc.length < sizeLine ∧ ∃ Z ρ acc', Inn (i + 1) Z ρ acc' (upd H4 D (.lst (acc ++ [y]))) else ∃ Z ρ acc, Inn (i + 1) Z ρ acc H3 := by
              refine ⟨Z, ρ2, r2, ?_⟩
              cases ec : c ρ2 with
              | st => rw [ec] at h; exact h
              | ex k ρ3 => rw [ec] at h; exact h.elim
              | ok b ρ3 =>
                rw [ec] at h
                intro b' H3 Z3 r3 f3 eb
                cases eb
                cases b with
                | false =>
                  rw [if_neg (by decide)]
                  have h : Fits (cy X cv W) Z0 σ ρ0 H0 (SV X.K σ H0) (if canWipe ρ3 vs = true then lcR t c e vs (xs.drop (i + 1)) (wipeR ρ3 vs) acc else .st) Q := h
                  split at h
                  · rename_i cw3
                    obtain ⟨a1, a2, a3, a4, a5, a6⟩ := fin r3 (f2.trans f3) cw3
                    exact ⟨Z3, wipeR ρ3 vs, acc, a1, a2, fun i hi s hs => wipeR_in hi hs, a3, a4, a5, a6, h⟩
                  · exact h.elim
                | true =>
                  rw [if_pos rfl]
                  refine ⟨Z3, ρ3, r3, ?_⟩
                  cases ee : e ρ3 with
                  | st => simp only [ee] at h; exact h
                  | ex k ρ4 => simp only [ee] at h; exact h.elim
                  | ok w ρ4 =>
                    simp only [ee] at h
                    intro u H4 Z4 r4 f4 q4
                    split at h
                    · rename_i yd ρ5 ef
                      split at h
                      · rename_i hc
                        obtain ⟨hl, cw5⟩ := hc
                        obtain ⟨Z5, r5, f5, q5, _, _⟩ := frz1_ok r4 f4 q4.w ef
                        obtain ⟨a1, a2, a3, ⟨ws5, a4, a4'⟩, a5, a6⟩ := fin r5 ((f2.trans f3).trans f5) cw5
                        have kp5 : Kp Z5 Z5 H4 (upd H4 D (.lst (ws5 ++ [u]))) := upd_kp (K := X.K) a5 a4 ⟨fun _ _ z => (nomatch z), fun _ z => (nomatch z)⟩
                        have keepO : ∀ {b o}, b ≠ D → H4 b = some o → (upd H4 D (.lst (ws5 ++ [u]))) b = some o := fun {b o} hb e => by rw [upd_ne hb]; exact e
                        have ownD : ∀ {i : Nat} {m : Md} {c : Co} {a : Addr}, (wipeR ρ5 vs)[i]? = some (.o m c) → σ[i]? = some (some (V.ref a)) → a ≠ D := fun {i m c a} g1 g2 z => a6 ⟨i, m, c, g1, by rw [← z]; exact g2⟩
                        refine ⟨ws5, a4, by rw [a4'.length, ← szL_eq]; exact hl, Z5, wipeR ρ5 vs, acc ++ [yd], ?_, ?_, fun i hi s hs => wipeR_in hi hs, ok.keep _ _ _ _ a3 kp5, ⟨_, upd_same, (a4'.keep kp5).append (.cons (q5.keep kp5) .nil)⟩, a5, a6, h⟩
                        · exact ⟨a1.len, fun i x h => let ⟨u, g1, g2⟩ := a1.d i x h; ⟨u, g1, g2.keep kp5⟩, fun i m c h => let ⟨a, ho, g1, g2, g3, g4⟩ := a1.o i m c h; ⟨a, ho, g1, g2, keepO (ownD h g1) g3, g4.keep kp5⟩,
                            fun i ns h => let ⟨a, g1, g2⟩ := a1.s i ns h; ⟨a, g1, g2.keep kp5⟩, a1.e, a1.ap, fun a z => let ⟨o, g⟩ := a1.zt a z; ⟨o, kp5.l _ _ z g⟩⟩
                        · exact ⟨fun b o e no => keepO (fun z => by rw [z, hD0] at e; cases e) (a2.keep b o e no), a2.zup, a2.znew, a2.own, a2.bor, fun b o e => by
                            obtain ⟨o', e'⟩ := a2.live b o e
                            exact ⟨o', keepO (fun z => by rw [z, hD0] at e; cases e) e'⟩⟩
                      · exact h.elim
                    · exact h.elim
            exact tc
        · have ei : i = xs.length := by omega
          rw [List.drop_eq_nil_of_le (by omega)] at h
          exact .inl ⟨ok.stop i Z H p (by omega), h _ H Z r f ⟨D, _, rfl, nz, nO, hD0, hw, ws, rfl, qw⟩⟩
    · exact h0.elim
section
variable {elt tg iter : Expr} {ifs : List Expr} {scope : Scope} {own : List (Str × Nat)} {pos spos : Pos} {src : Rho → Out (List D)} {ts : List Nat} {t : D → Rho → Option Rho} {c : Rho → Out Bool} {e : Rho → Out Vl}
theorem ve_lc (hc : X.calm = true) (hN : X.N.Nodup) (hi : VI X cv W tg iter src) (ok : BlkOk X.N X.env.scope scope own) (hts : ∀ i ∈ ts, i ∈ own.map (·.2))
    (hg : ∀ (s : Shared) (H : Hp) (C : Addr) (cl : List (Str × Addr)) (fp : List Addr), VG (X.blk s H scope (compEnvC scope cl C X.env) fp) tg ts t) (ht : ∀ (s : Shared) (H : Hp) (C : Addr) (cl : List (Str × Addr)) (fp : List Addr), VTs (X.blk s H scope (compEnvC scope cl C X.env) fp) cv WF ifs c)
    (he : ∀ (s : Shared) (H : Hp) (C : Addr) (cl : List (Str × Addr)) (fp : List Addr), VE (X.blk s H scope (compEnvC scope cl C X.env) fp) cv WF elt e) (hs : ∀ x, foldedSetIterable iter X.env x = pure x) :
    VE X cv W (.ListComp elt [⟨tg, iter, ifs, 0⟩] scope pos) (mLc src t c e (own.map (·.2))) :=
  PE.imp (pe_lc (g := tG X.K ts t) (tt := tT (cy X cv WF) c) (te := tV (cy X cv WF) e) hc hN hi ok hg ht he hs) fun σ H Q h => lc_tr hts h
theorem vs_setLc {i : Nat} {y : Str} {py : Pos} (hc : X.calm = true) (hN : X.N.Nodup) (hy : X.N[i]? = some y) (hyl : X.env.scope.names.lookup y = some .local) (hsw : swapsWith (.ListComp elt [⟨tg, iter, ifs, 0⟩] scope pos) (some (.Name y py)) spos.line X.env = pure true)
    (hi : VI X cv W tg iter src) (ok : BlkOk X.N X.env.scope scope own) (hts : ∀ i ∈ ts, i ∈ own.map (·.2))
    (hg : ∀ (s : Shared) (H : Hp) (C : Addr) (cl : List (Str × Addr)) (fp : List Addr), VG (X.blk s H scope (compEnvC scope cl C X.env) fp) tg ts t) (ht : ∀ (s : Shared) (H : Hp) (C : Addr) (cl : List (Str × Addr)) (fp : List Addr), VTs (X.blk s H scope (compEnvC scope cl C X.env) fp) cv WF ifs c)
    (he : ∀ (s : Shared) (H : Hp) (C : Addr) (cl : List (Str × Addr)) (fp : List Addr), VE (X.blk s H scope (compEnvC scope cl C X.env) fp) cv WF elt e) (hs : ∀ x, foldedSetIterable iter X.env x = pure x) :
    VS X cv W (.Assign [.Name y py] (.ListComp elt [⟨tg, iter, ifs, 0⟩] scope pos) spos) (mSet i (mLc src t c e (own.map (·.2)))) :=
  PS.imp (ps_setLc (g := tG X.K ts t) (tt := tT (cy X cv WF) c) (te := tV (cy X cv WF) e) hc hN hy hyl hsw hi ok hg ht he hs) fun D σ H h => lc_tr hts (set_core h)
end
end
end EV
set_option maxHeartbeats 400000
namespace EV
open PySem PySem.Spec PyProof.Rows L2
section
variable {X : Cx} {cv : Nat → Value} {W : WX}
/-! ### raise -/
def mRaise (c : Nat) (ρ : Rho) : SR := .ex c ρ
theorem vs_raise {e : Expr} {pos : Pos} {c : Nat} (hc : X.calm = true) (tk : Takes X W) (hp : PMk X e (fun _ H Q => Q (cv c) none H)) : VS X cv W (.Raise (some e) none pos) (mRaise c) :=
  PS.imp (ps_raise hc tk hp) fun D σ H ⟨Z, ρ, r, h⟩ => h σ H Z r Fr.refl

/-! ### try: body, except x as n: suite -/
def cleanS (i : Nat) : SR → SR
  | .nx ρ => .nx (ρ.set i .no)
  | .bk ρ => .bk (ρ.set i .no)
  | .ct ρ => .ct (ρ.set i .no)
  | .rt (.d x) ρ => .rt (.d x) (ρ.set i .no)
  | _ => .st
def mTry (i : Nat) (tks : Nat → Bool) (mb : Rho → SR) (mh : Nat → Rho → SR) (ρ : Rho) : SR :=
  match mb ρ with
  | .ex c ρ1 => if tks c = true then (if mayS ρ1 i = true then mh c ρ1 else .st) else .ex c ρ1
  | r => r
theorem clean_fit {Z Z1 : Zs} {σ σ1 : St} {ρ ρ1 : Rho} {H H1 : Hp} {i : Nat} {r : SR} {D : Ends} (f : Fr Z σ ρ H Z1 σ1 ρ1 H1) (h : FitS (cy X cv W) Z σ ρ H (cleanS i r) D)
    (ms : ∀ ρ2, (r = .nx ρ2 ∨ r = .bk ρ2 ∨ r = .ct ρ2 ∨ ∃ x, r = .rt (.d x) ρ2) → mayS ρ2 i = true) :
    FitS (cy X cv WF) Z1 σ1 ρ1 H1 r { nx := fun σ' H' => D.nx (σ'.set i none) H', rt := D.rt, bk := fun σ' H' => D.bk (σ'.set i none) H', ct := fun σ' H' => D.ct (σ'.set i none) H' } := by
  cases r with
  | st => exact h.elim
  | ex c ρ2 => exact h.elim
  | nx ρ2 =>
    intro σ' H' Z' r' f'
    obtain ⟨r3, f3⟩ := r'.store (s := .no) (w := none) (u := .non) (f.trans f') (ms ρ2 (.inl rfl)) .no (.inr rfl)
    exact h _ _ _ r3 f3
  | bk ρ2 =>
    intro σ' H' Z' r' f'
    obtain ⟨r3, f3⟩ := r'.store (s := .no) (w := none) (u := .non) (f.trans f') (ms ρ2 (.inr (.inl rfl))) .no (.inr rfl)
    exact h _ _ _ r3 f3
  | ct ρ2 =>
    intro σ' H' Z' r' f'
    obtain ⟨r3, f3⟩ := r'.store (s := .no) (w := none) (u := .non) (f.trans f') (ms ρ2 (.inr (.inr (.inl rfl)))) .no (.inr rfl)
    exact h _ _ _ r3 f3
  | rt v ρ2 =>
    cases v with
    | d x =>
      intro u σ' H' Z' r' f' q
      obtain ⟨r3, f3⟩ := r'.store (s := .no) (w := none) (u := .non) (f.trans f') (ms ρ2 (.inr (.inr (.inr ⟨x, rfl⟩)))) .no (.inr rfl)
      exact h u _ H' Z' r3 f3 q
    | n c => exact h.elim
    | s j => exact h.elim
theorem Rel.addr {K : PySem.W.Frag} {Z : Zs} {σ : St} {H : Hp} {ρ : Rho} {i : Nat} (r : Rel K Z σ H ρ) (my : mayS ρ i = true) (a : Addr) {Z0 : Zs} {σ0 : St} {ρ0 : Rho} {H0 : Hp} (f : Fr Z0 σ0 ρ0 H0 Z σ ρ H) :
    Rel K Z (σ.set i (some (.ref a))) H (ρ.set i (.e a)) ∧ Fr Z0 σ0 ρ0 H0 Z (σ.set i (some (.ref a))) (ρ.set i (.e a)) H := by
  have hlt := mayS_lt my
  have hl2 : i < σ.length := by rw [← r.len]; exact hlt
  obtain ⟨r2, f2⟩ := r.store (s := .no) (w := some (.ref a)) (u := .ref a) f my .no (.inl rfl)
  have g : ∀ {j : Nat} {s : Sl}, (ρ.set i (.e a))[j]? = some s → (j = i ∧ s = .e a) ∨ (ρ.set i .no)[j]? = some s := fun {j s} h => by
    rcases set_get h with h | ⟨ne, h⟩
    · exact .inl h
    · exact .inr (by rw [List.getElem?_set_ne (fun z => ne z.symm)]; exact h)
  have own : ∀ b, OwnAt (σ.set i (some (.ref a))) (ρ.set i (.e a)) b → OwnAt (σ.set i (some (.ref a))) (ρ.set i .no) b := fun b ⟨j, m, c, h1, h2⟩ => by
    rcases g h1 with ⟨_, z⟩ | h1
    · cases z
    · exact ⟨j, m, c, h1, h2⟩
  refine ⟨⟨by rw [List.length_set, List.length_set]; exact r.len, fun j x h => ?_, fun j m c h => ?_, fun j ns h => ?_, fun j b h => ?_, fun j k m n c d b h1 h2 s1 s2 => ?_, r2.zt⟩,
    ⟨f2.keep, f2.zup, f2.znew, fun b h => f2.own b (own b h), fun j m c h hm => ?_, f2.live⟩⟩
  · rcases g h with ⟨_, z⟩ | h
    · cases z
    · exact r2.d _ _ h
  · rcases g h with ⟨_, z⟩ | h
    · cases z
    · exact r2.o _ _ _ h
  · rcases g h with ⟨_, z⟩ | h
    · cases z
    · exact r2.s _ _ h
  · rcases g h with ⟨rfl, z⟩ | h
    · cases z
      rw [List.getElem?_set, if_pos rfl, if_pos hl2]
    · exact r2.e _ _ h
  · rcases g h1 with ⟨_, z⟩ | h1
    · cases z
    · rcases g h2 with ⟨_, z⟩ | h2
      · cases z
      · exact r2.ap _ _ _ _ _ _ _ h1 h2 s1 s2
  · obtain ⟨e1, c', e2, e3⟩ := f2.bor j m c h hm
    refine ⟨e1, c', ?_, e3⟩
    rcases set_get e2 with ⟨_, z⟩ | ⟨ne, z⟩
    · cases z
    · rw [List.getElem?_set_ne (fun z => ne z.symm)]; exact z
section
variable {x n : Str} {cz : Value} {i : Nat} {body suite : List Stmt} {b0 : Stmt} {np pos pos' : Pos} {mb : Rho → SR} {ms : Addr → Nat → Rho → SR} {mh : Nat → Rho → SR} {tks : Nat → Bool}
theorem vs_try (hs : X.stack = X.env :: X.outer) (hf : X.env.frame = some X.env.locals) (hN : X.N.Nodup) (hi : X.N[i]? = some n) (hln : X.env.kindOf n = some .local) (hc : Names X x cz) (tk : Takes X W) (hx : ∀ c, PySem.W.exmOne X.K (cv c) cz = some (tks c))
    (hb : ∀ (W' : WX) (pn : List (Addr × Obj)) (xe : Value → Shared → Prop), Takes (X.tr pn xe) W' → PassesOwn (model X.prog X.w) X.A X.env xe → VB (X.tr pn xe) cv W' body mb)
    (hsu : ∀ (a : Addr) (oe : Obj) (c : Nat) (pn : List (Addr × Obj)), Zc (cv c) none oe → (∃ vs, oe.data = .fields vs) → VB (X.suite a ((a, oe) :: pn)) cv WF (b0 :: suite) (ms a c))
    (hms : ∀ a c ρ, mayS ρ i = true → cleanS i (ms a c (ρ.set i (.e a))) = mh c ρ)
    (hmy : ∀ a c ρ ρ2, (ms a c ρ = .nx ρ2 ∨ ms a c ρ = .bk ρ2 ∨ ms a c ρ = .ct ρ2 ∨ ∃ x, ms a c ρ = .rt (.d x) ρ2) → mayS ρ i = true → mayS ρ2 i = true) :
    VS X cv W (.Try body [.ExceptHandler (some (.Name x np)) (some n) (b0 :: suite) pos'] [] [] pos) (mTry i tks mb mh) := by
  refine PS.imp (ps_try_as (tb := fun W' => tS (cy X cv W') mb) (ts := fun a cls d D σ H => ∃ c, cls = cv c ∧ d = none ∧ tS (cy X cv WF) (ms a c) D σ H) hs hf hN hi hln hc tk hb
    (fun a oe cls d pn hz hd => ⟨fun pins s σ H D I ⟨c, e1, e2, h⟩ => (hsu a oe c pn (by subst e1 e2; exact hz) hd).run pins s σ H D I h⟩)) fun D σ H ⟨Z, ρ, r, h⟩ => ?_
  refine ⟨Z, ρ, r, ?_⟩
  unfold mTry at h
  cases e : mb ρ with
  | st => rw [e] at h; exact h
  | nx ρ1 => rw [e] at h; exact h
  | bk ρ1 => rw [e] at h; exact h
  | ct ρ1 => rw [e] at h; exact h
  | rt v ρ1 => rw [e] at h; exact h
  | ex c ρ1 =>
    rw [e] at h
    have h : FitS (cy X cv W) Z σ ρ H (if tks c = true then (if mayS ρ1 i = true then mh c ρ1 else .st) else .ex c ρ1) D := h
    intro σ' H' Z' r' f'
    refine ⟨tks c, hx c, fun ht a na => ?_, fun ht => ?_⟩
    · rw [if_pos ht] at h
      split at h
      · rename_i my
        obtain ⟨r2, f2⟩ := r'.addr my a f'
        refine ⟨c, rfl, rfl, Z', _, r2, ?_⟩
        have hlt := mayS_lt my
        have my2 : mayS (ρ1.set i (.e a)) i = true := by
          unfold mayS
          rw [List.getElem?_set, if_pos rfl, if_pos hlt]
        exact clean_fit (i := i) (r := ms a c (ρ1.set i (.e a))) f2 (by rw [hms a c ρ1 my]; exact h) fun ρ2 q => hmy a c _ ρ2 q my2
      · exact h.elim
    · rw [ht, if_neg (by decide)] at h
      exact h σ' H' Z' r' f'
end

/-! ### a def that is called in an except suite with the exception -/
/-- p: the exception that is handled -/
structure FnE (P : Program) (w : World) (K : PySem.W.Frag) (mg : Str → Option Value) (base : Heap) (cv : Nat → Value) (k : Nat) (f : Addr) (fd : FuncData) (ps : List Str) (g : Addr → Nat → Rho → Out Vl) : Prop where
  run : ∀ (A : Around) (outer : List Env) (s : Shared) (H : Hp) (args : Args) (us : List Value) (vs : List V) (Q : VK) (E : XK) (p : Addr × Obj) (c : Nat), L2H.RoomH k A → L2H.PinOk outer H s p → Zc (cv c) none p.2 → (∃ vs, p.2.data = .fields vs) →
    Env0 P w K mg base A outer s H → BindsTo s fd args (ps.zip us) → Vals vs us → spV K cv ps.length (g p.1 c) vs H Q E → codeAny (model P w) A (.call (.ref f) args) (CR (L2.CX P w) outer P w H s Q E) s
end
end EV
set_option maxHeartbeats 400000
namespace EV
open PySem PySem.Spec PyProof.Rows L2
section
variable {P : Program} {w : World} {K : PySem.W.Frag} {mg : Str → Option Value} {base : Heap} {cv : Nat → Value}
theorem takesF {X : Cx} : Takes X WF := takes_none5
/-- from a body's end to what the call's end is to be -/
theorem sp_exit {Cp : Nat} {g : Rho → Out Vl} {as : Rho} {mb : Rho → SR} {X : Cx} {W : WX} {Z : Zs} {vs : List V} {H : Hp} {Q : VK} {E : XK} {N : List Str} (hK : X.K = K) (hW : W = fun cls d _ H' => E cls d H') (r : Rel K Z (argSt vs) H as) (no : noOwn as)
    (h : Fits ⟨K, cv, fun cls d _ H' => E cls d H'⟩ Z (argSt vs) as H (SV K (argSt vs) H) (g as) Q) (e : g as = .st ∨ exitF as (mb (pad as N.length)) = g as) :
    FitS (cy X cv W) Z (L2.start N vs) (pad as N.length) H (mb (pad as N.length)) { nx := fun _ H' => Q .non H', rt := Q } := by
  subst hK hW
  rcases e with e | e
  · rw [e] at h; exact h.elim
  rw [← e] at h
  unfold exitF at h
  split at h
  · rename_i ρ' eb
    rw [eb]
    intro σ' H' Z' r' f'
    obtain ⟨rx, fx, _⟩ := rel_exit r no r' f'
    exact h .non H' Z' rx fx .non
  · rename_i y ρ' eb
    rw [eb]
    intro u σ' H' Z' r' f' q
    obtain ⟨rx, fx, _⟩ := rel_exit r no r' f'
    exact h u H' Z' rx fx q
  · rename_i c ρ' eb
    rw [eb]
    intro u σ' H' Z' r' f' q
    obtain ⟨rx, fx, _⟩ := rel_exit r no r' f'
    obtain ⟨b, ho, rfl, nz, nb, h0, e2, q⟩ := q
    refine h _ H' Z' rx fx ⟨b, ho, rfl, nz, fun z => ?_, h0, e2, q⟩
    obtain ⟨i, m, c2, k1, k2⟩ := z
    obtain ⟨a1, k3, k4⟩ := backOf_get k1
    rcases k4 with ⟨m1, c1, rfl, _⟩ | ⟨k4, rfl⟩
    · obtain ⟨a2, ho2, k5, _, k6, _⟩ := r.o _ _ _ k3
      rw [k2] at k5; cases k5
      rw [h0] at k6; cases k6
    · exact absurd rfl (k4 _ _)
  · rename_i i ρ' eb
    rw [eb]
    intro u σ' H' Z' r' f' q
    have q : σ'[i]? = some (some u) := q
    obtain ⟨rx, fx, ow⟩ := rel_exit r no r' f'
    split at h
    · rename_i y ei
      obtain ⟨u', e1, q1⟩ := r'.d _ _ ei
      rw [q] at e1; cases e1
      exact h u H' Z' rx fx q1
    · rename_i c ei
      obtain ⟨b, ho, e1, nz, e2, q1⟩ := r'.o _ _ _ ei
      rw [q] at e1; cases e1
      obtain ⟨n1, n2⟩ := ow b i c ei q
      exact h _ H' Z' rx fx ⟨b, ho, rfl, nz, n1, n2, e2, q1⟩
    · exact h.elim
  · rename_i c ρ' eb
    rw [eb]
    intro σ' H' Z' r' f'
    obtain ⟨rx, fx, _⟩ := rel_exit r no r' f'
    exact h H' Z' rx fx
  · exact h.elim

/-- a def by its body -/
theorem fn_okG {x qual : Str} {st : Stmt} {a : Addr} {fd : FuncData} {N ps : List Str} {k : Nat} {g : Rho → Out Vl} (F : Fun K x qual st a fd) (S : FnScope N ps (defScope st))
    (hbody : ∀ (cdv : Value) (A : Around) (outer : List Env) (s : Shared) (H : Hp) (E : XK), RoomG k (A.deeper (envOfC qual (defScope st) s.heap.objs.size a cdv)) →
      ∃ mb, VB (cxOf (L2.CX P w) P w K mg base N qual (defScope st) a cdv A outer s H E) cv (fun cls d _ H' => E cls d H') (defBody st) mb ∧ ∀ as : Rho, as.length = ps.length → g as = .st ∨ exitF as (mb (pad as N.length)) = g as) :
    FnG P w K mg base cv (k + 1) a fd ps g := by
  obtain ⟨oc, od, kV, doc, pm, an, cdv, ct, osl, rfl, lk, hcd⟩ := F.ex
  constructor
  intro A outer s H args us vs Q E hr e0 hb rv hsp
  have hlen : vs.length = ps.length := spV_len _ _ _ _ hsp
  have kin := e0.mod.kin.keeps fun b o q => (e0.bs b o q).1
  have nol := e0.mod.nolimit.keeps fun b o q => (e0.bs b o q).1
  have par : ∀ y ∈ ps.zip us, (defScope st).names.lookup y.1 = some .local ∨
      ((defScope st).names.lookup y.1 = some .cell ∧ ((cellsFrom (s.heap.objs.size + 1) (defScope st).names []).lookup y.1).isSome = true) := by
    rintro ⟨n, v⟩ hy
    exact (S.par n (List.of_mem_zip hy).1).imp_right fun q => ⟨q, PySem.W.cellsFrom_some _ _ _ (.inl q)⟩
  apply codeAny_call_function hr.room.depth (kin _ _ lk) rfl S.co S.gen rfl (PySem.W.codeRec_of kin hcd)
  apply hb
  apply wpAny_newFunctionEnv_cells S.kind par
  rintro env rfl s1 x
  refine ⟨nol.keeps x.toInCall.keep, ?_⟩
  apply codeAny_func
  obtain ⟨mb, vb, he⟩ := hbody cdv A outer s H E (hr.deeper _)
  obtain ⟨Z, as, hl, r, no, h⟩ := hsp
  have I := L2.inv_start (CX := L2.CX P w) (E := E) (cd := cdv) (f := a) (qual := qual) S hr.room.hd e0 hlen rv x
  have run := vb.run [] s1 (L2.start N vs) H { nx := fun _ H' => Q .non H', rt := Q } I ⟨Z, pad as N.length, rel_start r, sp_exit (Cp := 0) rfl rfl r no h (he as hl)⟩
  refine wpAny_mono run ?_ fun _ _ q => q
  have done : ∀ {s' : Shared} {σ' : St} {H' : Hp} {v : V} {u : Value}, Inv (cxOf (L2.CX P w) P w K mg base N qual (defScope st) a cdv A outer s H E) [] σ' H' s' → RelV v u → Q v H' → CE outer P w H s Q u s' := by
    intro s' σ' H' v u J q1 q2
    exact ⟨v, H', J.os, J.bare, J.base, J.hok, q1, q2⟩
  rintro (_ | _ | _ | u) s' hs
  · obtain ⟨_, _, J, q⟩ := hs
    exact done (v := .non) J rfl q
  · obtain ⟨_, _, _, q⟩ := hs; exact q.elim
  · obtain ⟨_, _, _, q⟩ := hs; exact q.elim
  · obtain ⟨_, _, _, J, q1, q2⟩ := hs
    exact done J q1 q2

/-- a def that is called with the exception, by its body -/
theorem fn_okE {x qual : Str} {st : Stmt} {a : Addr} {fd : FuncData} {N ps : List Str} {k : Nat} {g : Addr → Nat → Rho → Out Vl} (F : Fun K x qual st a fd) (S : FnScope N ps (defScope st))
    (hbody : ∀ (cdv : Value) (A : Around) (outer : List Env) (s : Shared) (H : Hp) (E : XK) (p : Addr × Obj) (c : Nat), L2H.RoomH k (A.deeper (envOfC qual (defScope st) s.heap.objs.size a cdv)) → Zc (cv c) none p.2 → (∃ vs, p.2.data = .fields vs) →
      ∃ mb, VB (L2H.cxH (L2.CX P w) P w K mg base N qual (defScope st) a cdv A outer s H E p) cv (fun cls d _ H' => E cls d H') (defBody st) mb ∧ ∀ as : Rho, as.length = ps.length → g p.1 c as = .st ∨ exitF as (mb (pad as N.length)) = g p.1 c as) :
    FnE P w K mg base cv (k + 1) a fd ps g := by
  obtain ⟨oc, od, kV, doc, pm, an, cdv, ct, osl, rfl, lk, hcd⟩ := F.ex
  constructor
  intro A outer s H args us vs Q E p c hr pin hz hd e0 hb rv hsp
  have hlen : vs.length = ps.length := spV_len _ _ _ _ hsp
  have kin := e0.mod.kin.keeps fun b o q => (e0.bs b o q).1
  have nol := e0.mod.nolimit.keeps fun b o q => (e0.bs b o q).1
  have par : ∀ y ∈ ps.zip us, (defScope st).names.lookup y.1 = some .local ∨
      ((defScope st).names.lookup y.1 = some .cell ∧ ((cellsFrom (s.heap.objs.size + 1) (defScope st).names []).lookup y.1).isSome = true) := by
    rintro ⟨n, v⟩ hy
    exact (S.par n (List.of_mem_zip hy).1).imp_right fun q => ⟨q, PySem.W.cellsFrom_some _ _ _ (.inl q)⟩
  apply codeAny_call_function hr.depth (kin _ _ lk) rfl S.co S.gen rfl (PySem.W.codeRec_of kin hcd)
  apply hb
  apply wpAny_newFunctionEnv_cells S.kind par
  rintro env rfl s1 x
  refine ⟨nol.keeps x.toInCall.keep, ?_⟩
  apply codeAny_func
  obtain ⟨mb, vb, he⟩ := hbody cdv A outer s H E p c (hr.deeper _) hz hd
  obtain ⟨Z, as, hl, r, no, h⟩ := hsp
  have I := L2H.inv_startH (CX := L2.CX P w) (E := E) (cd := cdv) (f := a) (qual := qual) S pin e0 hlen rv x
  have run := vb.run [] s1 (L2.start N vs) H { nx := fun _ H' => Q .non H', rt := Q } I ⟨Z, pad as N.length, rel_start r, sp_exit (Cp := 0) rfl rfl r no h (he as hl)⟩
  refine wpAny_mono run ?_ fun _ _ q => q
  have done : ∀ {s' : Shared} {σ' : St} {H' : Hp} {v : V} {u : Value}, Inv (L2H.cxH (L2.CX P w) P w K mg base N qual (defScope st) a cdv A outer s H E p) [] σ' H' s' → RelV v u → Q v H' → CE outer P w H s Q u s' := by
    intro s' σ' H' v u J q1 q2
    exact ⟨v, H', J.os, J.bare, J.base, J.hok, q1, q2⟩
  rintro (_ | _ | _ | u) s' hs
  · obtain ⟨_, _, J, q⟩ := hs
    exact done (v := .non) J rfl q
  · obtain ⟨_, _, _, q⟩ := hs; exact q.elim
  · obtain ⟨_, _, _, q⟩ := hs; exact q.elim
  · obtain ⟨_, _, _, J, q1, q2⟩ := hs
    exact done J q1 q2
end
section
variable {X : Cx} {cv : Nat → Value} {W : WX}
/-- isinstance(e, C), e the slot of the handled exception, whose class is that of the number c -/
def mIsE (i : Nat) (a : Addr) (b : Bool) (ρ : Rho) : Out Vl :=
  match ρ[i]? with
  | some (.e a') => if a' = a then .ok (.d (.bool b)) ρ else .st
  | _ => .st
def rIsC (K : PySem.W.Frag) (a C : Addr) (b : Bool) : List V → Hp → VK → Prop := fun xs H Q => xs = [.ref a, .ref C] ∧ Q (.bl b) H
theorem call_isC {p : Addr × Obj} {Dc C : Addr} {b : Bool} (hp : p ∈ X.pn) (hz : Zc (.ref Dc) none p.2) (hd : ∃ vs, p.2.data = .fields vs) (E : ExcC X.K Dc) (hk : PySem.W.kitOne X.K (.ref Dc) (.ref C) = some b) : CallR X (.builtin "isinstance") (rIsC X.K p.1 C b) := by
  rintro pins s σ H xs us Q I rv ⟨rfl, q⟩
  cases rv with
  | cons r1 rv =>
    cases rv with
    | cons r2 rv =>
      cases rv
      cases r1
      cases r2
      have there := (I.pin p (List.mem_append_left _ hp)).1
      obtain ⟨a, ⟨ocl, odi, oda, osl⟩⟩ := p
      obtain ⟨z1, z2⟩ := hz
      obtain ⟨fv, z3⟩ := hd
      simp only at z1 z2 z3 there
      subst z1 z2 z3
      have inst : PySem.W.InstAt s.heap a _ Dc none := ⟨there, rfl, rfl, trivial⟩
      refine PySem.W.kia_one (PySem.W.handS_kitx_exc E.hg E.hk E.hs E.hd E.ha E.hn E.ht E.hm) I.kIn inst hk (by rintro ⟨⟩) ?_
      intro tk
      exact ⟨.bl b, H, I.kept (t' := tk) (fun _ _ e => e), rfl, q⟩
theorem ve_isE {i : Nat} {x n : Str} {c : Nat} {pp : Addr × Obj} {Dc C : Addr} {b : Bool} {p p1 p2 pos : Pos} (hp : pp ∈ X.pn) (hz : Zc (cv c) none pp.2) (hd : ∃ vs, pp.2.data = .fields vs) (hcv : cv c = .ref Dc) (E : ExcC X.K Dc) (hk : PySem.W.kitOne X.K (.ref Dc) (.ref C) = some b)
    (hg : Gl X "isinstance") (hm : X.mg "isinstance" = none) (hN : X.N[i]? = some n) (hv : Vis X.env.scope n) (hdn : (n == ("__debug__" : Str)) = false) (hcn : (n == ("__classdict__" : Str)) = false) (hgx : Gl X x) (hmx : X.mg x = some (.ref C)) (hdx : (x == ("__debug__" : Str)) = false) :
    VE X cv W (.Call (.Name "isinstance" p) [.Name n p1, .Name x p2] [] pos) (mIsE i pp.1 b) := by
  have hz' : Zc (.ref Dc) none pp.2 := by rw [← hcv]; exact hz
  refine PE.imp (pe_callB (call_isC hp hz' hd E hk) hg hm (by decide +kernel) (pa_cons (pe_var hN hv hdn hcn) (pa_cons (pe_glob (v := .ref C) hgx hmx rfl hdx) pa_nil))) fun σ H Q ⟨Z, ρ, r, h⟩ => ?_
  unfold mIsE at h
  split at h
  · rename_i a' ea
    split at h
    · rename_i eq
      subst eq
      exact ⟨.ref pp.1, r.e _ _ ea, rfl, h.ret r (.bl _)⟩
    · exact h.elim
  · exact h.elim
/-- the call of such a def with the handled exception alone -/
def mCallE (i : Nat) (a : Addr) (g : Rho → Out Vl) (ρ : Rho) : Out Vl :=
  match ρ[i]? with
  | some (.e a') => if a' = a then (match g [.e a] with
    | .ok (.d x) _ => .ok (.d x) ρ
    | _ => .st) else .st
  | _ => .st
theorem ve_callE {k i : Nat} {f a : Addr} {oe : Obj} {c : Nat} {fd : FuncData} {ps : List Str} {g : Addr → Nat → Rho → Out Vl} {x n : Str} {p p1 pos : Pos} (F : FnE X.prog X.w X.K X.mg X.base cv k f fd ps g) (hps : ps.length = 1) (hr : L2H.RoomH k X.A) (hp : (a, oe) ∈ X.pn) (hz : Zc (cv c) none oe) (hd : ∃ vs, oe.data = .fields vs)
    (hg : Gl X x) (hm : X.mg x = some (.ref f)) (hk : PySem.W.keepIn X.K (.ref f) = true) (hb : Binds X.K fd ps []) (hN : X.N[i]? = some n) (hv : Vis X.env.scope n) (hdn : (n == ("__debug__" : Str)) = false) (hcn : (n == ("__classdict__" : Str)) = false) (hdb : (x == ("__debug__" : Str)) = false) :
    VE X cv WF (.Call (.Name x p) [.Name n p1] [] pos) (mCallE i a (g a c)) := by
  constructor
  rintro pins s σ H Q I ⟨Z, ρ, r, h⟩
  unfold mCallE at h
  split at h
  · rename_i a' ea
    split at h
    rename_i eaa
    rw [eaa] at ea
    split at h
    · rename_i y a2 eg
      have es : σ[i]? = some (some (.ref a)) := r.e _ _ ea
      apply wpAny_Call_Name_kw
      apply ld_glob I hg hm _ hdb
      have arg : PA X [Expr.Name n p1] (tCons (tVar i) tNil) := pa_cons (pe_var hN hv hdn hcn) pa_nil
      refine PySem.W.callWith_K (h₀ := X.base) I.ok.mod.kin hk (thn (arg.run pos pins s σ H (fun vs H1 => vs = [.ref a] ∧ H1 = H) I ⟨.ref a, es, rfl, rfl⟩) ?_) rfl rfl
      rintro us s1 ⟨vs, H1, I1, rv, rfl, rfl⟩
      refine ⟨I1.kIn, ?_⟩
      have pin := I1.pin (a, oe) (List.mem_append_left _ hp)
      have hpin : L2H.PinOk X.stack H1 s1 (a, oe) := by
        refine ⟨pin.1, pin.2.1, fun hm => ?_, pin.2.2.2.2⟩
        rcases List.mem_cons.mp (I1.stkSub a hm) with z | z
        · exact pin.2.2.1 z
        · exact pin.2.2.2.1 z
      have bind := hb s1 us I1.kIn (by rw [List.append_nil, ← rv.length]; exact hps.symm)
      rw [List.append_nil] at bind
      have ra : Rel X.K Z (argSt [.ref a]) H1 [.e a] := by
        refine ⟨rfl, fun j x h => ?_, fun j m c h => ?_, fun j ns h => ?_, fun j b h => ?_, fun j k m n c d b h1 _ _ _ => ?_, r.zt⟩
        · cases j <;> simp at h
        · cases j <;> simp at h
        · cases j <;> simp at h
        · cases j <;> simp at h
          subst h; rfl
        · cases j <;> simp at h1
      have nO : ∀ {b : Addr}, ¬ OwnAt (argSt [.ref a]) [.e a] b := by
        rintro b ⟨j, m, c, h1, _⟩
        cases j <;> simp at h1
      have sp : spV X.K cv ps.length (g a c) [.ref a] H1 Q (fun _ _ _ => False) := by
        refine ⟨Z, [.e a], hps.symm, ra, fun j m c h => ?_, ?_⟩
        · cases j <;> simp at h
        · rw [eg]
          intro u H' Z' rb fb qb
          have kp := fb.kp ra
          have kk : ∀ {b o}, H1 b = some o → H' b = some o := fun {b o} e => fb.keep _ _ e nO
          have nz : ∀ {b o}, ¬ Z b → H1 b = some o → ¬ Z' b := fun {b o} nz e z => (fb.znew _ _ z e).elim nz nO
          refine h u H' Z' ⟨r.len, fun j x h => let ⟨u, e, q⟩ := r.d j x h; ⟨u, e, q.keep kp⟩, fun j m c h => let ⟨b, ho, e, z, e2, q⟩ := r.o j m c h; ⟨b, ho, e, nz z e2, kk e2, q.keep kp⟩, fun j ns h => let ⟨b, e, e2⟩ := r.s j ns h; ⟨b, e, e2.keep kp⟩, r.e, r.ap, rb.zt⟩
            ⟨fun b o h _ => kk h, fb.zup, fun b o z h => (fb.znew b o z h).elim .inl fun q => absurd q nO, fun b h => .inl h, fun j m c h _ => ⟨rfl, c, h, fun _ => rfl⟩, fb.live⟩ qb
      refine wpAny_call (codeAny_mono (F.run X.A X.stack s1 H1 ⟨us, []⟩ us [.ref a] Q (fun _ _ _ => False) (a, oe) c hr hpin hz hd I1.env0 bind rv sp) ?_)
      rintro (e | (_ | _ | _ | u)) s' hq
      · exact takesF e s' (XE.of_call (W := WF) (σ := σ) I1 (fun _ _ _ z => z) hq)
      · exact hq.elim
      · exact hq.elim
      · exact hq.elim
      · exact I1.after hq
    · exact h.elim
    · exact h.elim
  · exact h.elim
end
end EV
set_option maxHeartbeats 400000
namespace EV
open PySem PySem.Spec PyProof.Rows L2

/-! ### the end: the law's def at the script -/
/-- either nothing is tracked (the script is one of K's own), or the script alone -/
def scrHp (a : Addr) (ob : Obj) (u : HO) : Bool → Hp
  | true, _ => none
  | false, b => if b = a then some (.frz ob u) else none
theorem scrHp_some {a : Addr} {ob : Obj} {u : HO} {k : Bool} {b : Addr} {z : HO} (e : scrHp a ob u k b = some z) : k = false ∧ b = a ∧ z = .frz ob u := by
  cases k with
  | true => cases e
  | false =>
    by_cases q : b = a
    · have e' := (if_pos q).symm.trans e
      cases e'
      exact ⟨rfl, q, rfl⟩
    · have e' := (if_neg q).symm.trans e
      cases e'
theorem rel_scr {K : PySem.W.Frag} {H : Hp} {a : Addr} {ns : List Int} (h : ScrAt K H a ns) : Rel K (fun _ => False) (argSt [.ref a]) H [.scr ns] where
  len := rfl
  d i x e := by
    rcases i with _ | i
    · cases e
    · cases e
  o i m c e := by
    rcases i with _ | i
    · cases e
    · cases e
  s i ms e := by
    rcases i with _ | i
    · cases e; exact ⟨a, rfl, h⟩
    · cases e
  e i b q := by
    rcases i with _ | i
    · cases q
    · cases q
  ap i j m n c d b e := by
    rcases i with _ | i
    · cases e
    · cases e
  zt b z := z.elim
section
variable {P : Program} {w : World} {K : PySem.W.Frag} {mg mb : Str → Option Value} {cv : Nat → Value} {k : Nat} {fa a : Addr} {fd : FuncData} {x : Str} {g : Rho → Out Vl}
theorem end_hp {s1 : Shared} {vs : List Value} {ns : List Int} {kk : Bool} (inK : K.In s1.heap) (glob : s1.heap.Ns mainGlobals mg) (blt : s1.heap.Ns builtinsNs mb) (boot : ∀ y : Str, y ≠ "__name__" → mb y = bootBuiltins y) (nol : s1.heap.NoLimit) (gens : s1.gens = #[])
    (scr : s1.heap.get? a = some { cls := .type "list", data := .seq vs.toArray }) (room : RoomG k callerA) (F : ∀ base : Heap, K.In base → base.Ns mainGlobals mg → FnG P w K mg base cv k fa fd [x] g) (bind : ∀ (s : Shared) (u : Value), BindsTo s fd ⟨[u], []⟩ [(x, u)])
    (good : ∃ bk, g [.scr ns] = .ok (.d (.bool true)) bk) {H : Hp} (eH : H = scrHp a { cls := .type "list", data := .seq vs.toArray } (.lst (ns.map V.int)) kk) (at_ : ScrAt K H a ns) (hok : HOk P w H s1.heap) (notK : kk = false → K.lookup a = none) :
    codeAny (model P w) callerA (.call (.ref fa) ⟨[.ref a], []⟩) (fun r s' => r = .ok (.ret (.bool true)) ∧ OldK s1.heap s'.heap ∧ s'.os = s1.os ∧ AllBare s'.gens) s1 := by
  have only : ∀ {b : Addr} {z : HO}, H b = some z → kk = false ∧ b = a ∧ z = .frz { cls := .type "list", data := .seq vs.toArray } (.lst (ns.map V.int)) := fun {b z} e => scrHp_some (by rw [← eH]; exact e)
  have hid : ∀ {b : Addr} {o : Obj}, s1.heap.get? b = some o → b ≠ a → (hidT s1.heap H).get? b = some o := fun {b o} e n => hidT_get e (by
    cases q : H b with
    | none => rfl
    | some z => exact absurd (only q).2.1 n)
  have dicts : ∀ {b : Addr} {m : Str → Option Value}, s1.heap.Ns b m → (hidT s1.heap H).Ns b m := fun {b m} ⟨o, es, ep, e, d, rest⟩ =>
    ⟨o, es, ep, hid e (fun q => by
      subst q
      rw [scr] at e; cases e
      have d2 : Data.seq vs.toArray _ = Data.dict es ep := d
      cases d2), d, rest⟩
  have own : K.In (hidT s1.heap H) := fun b o e => by
    cases q : H b with
    | none => exact hidT_get (inK b o e) q
    | some z =>
      obtain ⟨z1, z2, _⟩ := only q
      subst z2
      rw [notK z1] at e; cases e
  have env : Env0 P w K mg (hidT s1.heap H) callerA [] s1 H :=
    { frames := rfl
      mod := ⟨own, dicts glob, ⟨mb, dicts blt, boot⟩, by obtain ⟨mc, q1, q2⟩ := nol; exact ⟨mc, dicts q1, q2⟩⟩
      bs := fun b o e => of_hidT e
      bsz := Nat.le_of_eq (hidT_size _ _)
      funs := trivial
      frf := fun b hb => nomatch (show b ∈ ([] : List Addr) from hb)
      hok := hok
      bare := .of_eq gens }
  obtain ⟨bk, eg⟩ := good
  have promise : spV K cv ([x] : List Str).length g [.ref a] H (fun v _ => v = .bl true) (fun _ _ _ => False) := by
    refine ⟨fun _ => False, [.scr ns], rfl, rel_scr at_, fun i m c e => ?_, ?_⟩
    · rcases i with _ | i
      · cases e
      · cases e
    · rw [eg]
      intro u H' Z' _ _ q
      have q : Rp K Z' H' u (.bool true) := q
      cases q
      rfl
  have ran := (F _ own (dicts glob)).run callerA [] s1 H ⟨[.ref a], []⟩ [.ref a] [.ref a] _ _ room env (bind s1 (.ref a)) (.cons rfl .nil) promise
  refine codeAny_mono ran fun r s' q => ?_
  match r, q with
  | .error e, q => obtain ⟨_, _, _, _, _, _, _, _, _, _, _, _, z⟩ := q; exact z.elim
  | .ok (.ret u), q =>
    obtain ⟨v, H', os, bare, un, hok', rv, qv⟩ := q
    have qv : v = .bl true := qv
    subst qv
    obtain rfl : u = Value.bool true := rv
    refine ⟨rfl, OldK.of_keep fun b o e => ?_, os, bare⟩
    cases q : H b with
    | none => exact un.keep b o e q (fun z => nomatch (show b ∈ ([] : List Addr) from z)) (fun z => nomatch z)
    | some z =>
      obtain ⟨_, _, rfl⟩ := only q
      have o1 := (hok b _ q).1
      have o2 := (hok' b _ (un.frzs b _ _ q)).1
      rw [e] at o1; cases o1
      exact o2
theorem end_call {s1 : Shared} {vs : List Value} {ns : List Int} (inK : K.In s1.heap) (glob : s1.heap.Ns mainGlobals mg) (blt : s1.heap.Ns builtinsNs mb) (boot : ∀ y : Str, y ≠ "__name__" → mb y = bootBuiltins y) (nol : s1.heap.NoLimit) (gens : s1.gens = #[])
    (scr : s1.heap.get? a = some { cls := .type "list", data := .seq vs.toArray }) (nums : IntsAre vs ns) (few : ns.length ≤ sizeLine) (room : RoomG k callerA) (F : ∀ base : Heap, K.In base → base.Ns mainGlobals mg → FnG P w K mg base cv k fa fd [x] g) (bind : ∀ (s : Shared) (u : Value), BindsTo s fd ⟨[u], []⟩ [(x, u)])
    (good : ∃ bk, g [.scr ns] = .ok (.d (.bool true)) bk) :
    codeAny (model P w) callerA (.call (.ref fa) ⟨[.ref a], []⟩) (fun r s' => r = .ok (.ret (.bool true)) ∧ OldK s1.heap s'.heap ∧ s'.os = s1.os ∧ AllBare s'.gens) s1 := by
  have vals := vals_ints nums
  have size : vs.length ≤ sizeLine := by rw [nums.length]; exact few
  cases q : K.lookup a with
  | some o =>
    have e := inK a o q
    rw [scr] at e
    cases e
    exact end_hp (kk := true) inK glob blt boot nol gens scr room F bind good rfl (.inr ⟨_, vs.toArray, _, q, rfl, rfl, rfl, size, vals⟩) (fun b z e => nomatch (show (none : Option HO) = some z from e)) (fun z => nomatch z)
  | none =>
    refine end_hp (kk := false) inK glob blt boot nol gens scr room F bind good rfl (.inl ⟨_, if_pos rfl⟩) (fun b z e => ?_) (fun _ => q)
    obtain ⟨_, rfl, rfl⟩ := scrHp_some e
    exact ⟨scr, by rw [List.length_map]; exact few, vs, _, vals, scr⟩
end
/-- what the head leaves, from the law's promise -/
theorem walk_ofG {l : PySem.W.OpenLaw} {n k : Nat} {q : Program} {loose : List Str} {XP : (Str → Option Value) → Heap → Prop} {YP : World → Heap → Prop} {d : DefRec} {KK : Params → PySem.W.Frag} {x : Str} {g : Rho → Out Vl}
    (most : l.most = some n) (few : n ≤ sizeLine) (plainArgs : d.params.defaults = []) (room : RoomG k callerA) (inK : ∀ (w : World) (h : Heap), YP w h → (KK w.params).In h)
    (F : ∀ (w : World) (mg : Str → Option Value) (fa : Addr) (h : Heap), (KK w.params).In h → h.Ns mainGlobals mg → mg d.name = some (.ref fa) →
      ∃ (fd : FuncData) (cv : Nat → Value), (∀ (s : Shared) (u : Value), BindsTo s fd ⟨[u], []⟩ [(x, u)]) ∧ ∀ base : Heap, (KK w.params).In base → base.Ns mainGlobals mg → FnG l.prog w (KK w.params) mg base cv k fa fd [x] g)
    (good : ∀ ns : List Int, ns.length ≤ n → ∃ bk, g [.scr ns] = .ok (.d (.bool true)) bk) : PySem.W.WalkO q loose XP YP l.row.toRowW d [] (fun f vs => PySem.call f vs) := by
  refine Att.attach_call most plainArgs fun w s0 s1 mg mb fa o pm cd doc a vs ns G Y _ _ _ isF scr nums len gens => ?_
  obtain ⟨fd, cv, bind, all⟩ := F w mg fa s1.heap (inK w _ Y) G.T.g isF
  exact end_call (inK w _ Y) G.T.g G.T.b G.T.builtins G.T.nolimit gens scr nums (Nat.le_trans len few) room all bind (good ns len)
end EV
set_option maxHeartbeats 400000
namespace EV
open PySem PySem.Spec PyProof.Rows L2
section
variable {X : Cx} {cv : Nat → Value} {W : WX}

/-! ### assignment to any target, by data -/
def mAsg (m : Rho → Out Vl) (b : D → Rho → Option Rho) (ρ : Rho) : SR := (m ρ).toS fun v ρ1 =>
  match frz1 v ρ1 with
  | some (x, ρ2) => match b x ρ2 with
    | some ρ3 => .nx ρ3
    | none => .st
  | none => .st
theorem vs_asg {tg e : Expr} {pos : Pos} {ts : List Nat} {m : Rho → Out Vl} {b : D → Rho → Option Rho} (he : VE X cv W e m) (hg : VG X tg ts b) (hs : swapsWithSole [tg] e pos.line X.env = pure false := by rfl) (hw : swappedStores [tg] e X.env = pure none := by rfl)
    (h1 : (assignEach [tg] X.env).map (·.2) = [assign tg X.env] := by rfl) : VS X cv W (.Assign [tg] e pos) (mAsg m b) :=
  PS.imp (ps_asg he hg hs hw h1) fun D σ H ⟨Z, ρ, r, h⟩ => tV.bindS r Fr.refl h fun v ρ1 u H1 Z1 r1 f1 q1 k1 => by
    cases ef : frz1 v ρ1 with
    | none => rw [ef] at k1; exact k1.elim
    | some p =>
      obtain ⟨x, ρ2⟩ := p
      rw [ef] at k1
      obtain ⟨Z2, r2, f2, q2, _, _⟩ := frz1_ok r1 f1 q1.w ef
      cases eb : b x ρ2 with
      | none =>
        have k1 : FitS (cy X cv W) Z σ ρ H (match b x ρ2 with
          | some ρ3 => .nx ρ3
          | none => .st) D := k1
        rw [eb] at k1; exact k1.elim
      | some ρ3 =>
        have k1 : FitS (cy X cv W) Z σ ρ H (match b x ρ2 with
          | some ρ3 => .nx ρ3
          | none => .st) D := k1
        rw [eb] at k1
        exact ⟨Z2, ρ2, x, ρ3, r2, q2, eb, fun σ' _ r3 f3 => k1 σ' H1 Z2 r3 (f2.trans f3)⟩
/-! ### parallel assignment to local names -/
def par2 (i j : Nat) (m : Rho → Out (List Vl)) (ρ : Rho) : SR := (m ρ).toS fun vs ρ1 =>
  match frzs vs ρ1 with
  | some ([x, y], ρ2) => if mayS ρ2 i = true ∧ mayS (ρ2.set i (.d x)) j = true then .nx ((ρ2.set i (.d x)).set j (.d y)) else .st
  | _ => .st
def par3 (i j l : Nat) (m : Rho → Out (List Vl)) (ρ : Rho) : SR := (m ρ).toS fun vs ρ1 =>
  match frzs vs ρ1 with
  | some ([x, y, z], ρ2) => if mayS ρ2 i = true ∧ mayS (ρ2.set i (.d x)) j = true ∧ mayS ((ρ2.set i (.d x)).set j (.d y)) l = true then .nx (((ρ2.set i (.d x)).set j (.d y)).set l (.d z)) else .st
  | _ => .st
theorem vs_par2 {i j : Nat} {x y : Str} {a b : Expr} {m : Rho → Out (List Vl)} {px py pt : Pos} {kt k2 pt2} (hc : X.calm = true) (hN : X.N.Nodup) (hi : X.N[i]? = some x) (hj : X.N[j]? = some y) (hij : i ≠ j)
    (hx : X.env.scope.names.lookup x = some .local) (hy : X.env.scope.names.lookup y = some .local) (ha : VA X cv W [a, b] m)
    (hw : swappedStores [.Tuple [.Name x px, .Name y py] kt pt] (.Tuple [a, b] k2 pt2) X.env = pure (some [x, y])) (hs : swapsWithSole [.Tuple [.Name x px, .Name y py] kt pt] (.Tuple [a, b] k2 pt2) pos.line X.env = pure false := by rfl) :
    VS X cv W (.Assign [.Tuple [.Name x px, .Name y py] kt pt] (.Tuple [a, b] k2 pt2) pos) (par2 i j m) :=
  PS.imp (ps_par hc hN hi hj hij hx hy ha hw hs) fun D σ H ⟨Z, ρ, r, h⟩ => by
    refine ⟨Z, ρ, r, ?_⟩
    unfold par2 at h
    cases em : m ρ with
    | st => rw [em] at h; exact h.elim
    | ex c ρ1 => rw [em] at h; exact fun H' Z' r' f' => h σ H' Z' r' f'
    | ok vs ρ1 =>
      rw [em] at h
      intro us H1 Z1 r1 f1 q1
      have h : FitS (cy X cv W) Z σ ρ H (match frzs vs ρ1 with
        | some ([x, y], ρ2) => if mayS ρ2 i = true ∧ mayS (ρ2.set i (.d x)) j = true then .nx ((ρ2.set i (.d x)).set j (.d y)) else .st
        | _ => .st) D := h
      split at h
      · rename_i dx dy ρ2 ef
        split at h
        · rename_i hm
          obtain ⟨Z2, r2, f2, q2, _, _⟩ := frzs_ok r1 f1 q1.w ef
          cases q2 with | cons qa qr =>
          cases qr with | cons qb qn =>
          cases qn
          obtain ⟨r3, f3⟩ := r2.store f2 hm.1 (.d qa) (.inl rfl)
          obtain ⟨r4, f4⟩ := r3.store f3 hm.2 (.d qb) (.inl rfl)
          exact ⟨_, _, rfl, h _ _ _ r4 f4⟩
        · exact h.elim
      · exact h.elim
theorem vs_par3 {i j l : Nat} {x y z : Str} {a b c : Expr} {m : Rho → Out (List Vl)} {px py pz pt pos : Pos} {kt k2 pt2} (hc : X.calm = true) (hN : X.N.Nodup) (hi : X.N[i]? = some x) (hj : X.N[j]? = some y) (hl : X.N[l]? = some z) (hij : i ≠ j) (hil : i ≠ l) (hjl : j ≠ l)
    (hx : X.env.scope.names.lookup x = some .local) (hy : X.env.scope.names.lookup y = some .local) (hz : X.env.scope.names.lookup z = some .local) (ha : VA X cv W [a, b, c] m)
    (hw : swappedStores [.Tuple [.Name x px, .Name y py, .Name z pz] kt pt] (.Tuple [a, b, c] k2 pt2) X.env = pure (some [x, y, z])) (hs : swapsWithSole [.Tuple [.Name x px, .Name y py, .Name z pz] kt pt] (.Tuple [a, b, c] k2 pt2) pos.line X.env = pure false := by rfl) :
    VS X cv W (.Assign [.Tuple [.Name x px, .Name y py, .Name z pz] kt pt] (.Tuple [a, b, c] k2 pt2) pos) (par3 i j l m) :=
  PS.imp (ps_par3 hc hN hi hj hl hij hil hjl hx hy hz ha hw hs) fun D σ H ⟨Z, ρ, r, h⟩ => by
    refine ⟨Z, ρ, r, ?_⟩
    unfold par3 at h
    cases em : m ρ with
    | st => rw [em] at h; exact h.elim
    | ex c ρ1 => rw [em] at h; exact fun H' Z' r' f' => h σ H' Z' r' f'
    | ok vs ρ1 =>
      rw [em] at h
      intro us H1 Z1 r1 f1 q1
      have h : FitS (cy X cv W) Z σ ρ H (match frzs vs ρ1 with
        | some ([x, y, z], ρ2) => if mayS ρ2 i = true ∧ mayS (ρ2.set i (.d x)) j = true ∧ mayS ((ρ2.set i (.d x)).set j (.d y)) l = true then .nx (((ρ2.set i (.d x)).set j (.d y)).set l (.d z)) else .st
        | _ => .st) D := h
      split at h
      · rename_i dx dy dz ρ2 ef
        split at h
        · rename_i hm
          obtain ⟨Z2, r2, f2, q2, _, _⟩ := frzs_ok r1 f1 q1.w ef
          cases q2 with | cons qa qr =>
          cases qr with | cons qb qn =>
          cases qn with | cons qc qe =>
          cases qe
          obtain ⟨r3, f3⟩ := r2.store f2 hm.1 (.d qa) (.inl rfl)
          obtain ⟨r4, f4⟩ := r3.store f3 hm.2.1 (.d qb) (.inl rfl)
          obtain ⟨r5, f5⟩ := r4.store f4 hm.2.2 (.d qc) (.inl rfl)
          exact ⟨_, _, _, rfl, h _ _ _ r5 f5⟩
        · exact h.elim
      · exact h.elim

/-! ### methods that read alone -/
def MrdOk (X : Cx) (id : String) (g : D → List D → Option Vl) : Prop :=
  ∃ rr, MtR X id rr ∧ ∀ (Z : Zs) (H : Hp) (v : V) (us : List V) (x : D) (xs : List D) (r : Vl) (Q : VK), RdV X.K Z H v x → RdVs X.K Z H us xs → g x xs = some r → (∀ v H', Ext H H' → ResR X.K Z H H' r v → Q v H') → rr v us H Q
/-- data of the type -/
def isTy : String → D → Bool
  | "list", .list _ => true
  | "str", .str _ => true
  | "int", .int _ => true
  | "dict", .dict _ => true
  | _, _ => false
theorem isTy_ty {K : PySem.W.Frag} {Z : Zs} {H : Hp} {v : V} {x : D} {T : String} (h : RdV K Z H v x) (t : isTy T x = true) : tyV K T v H := by
  unfold isTy at t
  split at t
  · obtain ⟨a, vs, rfl, e, _⟩ := h
    exact .inl ⟨rfl, vs, .inl (.inl e)⟩
  · cases h; rfl
  · cases h; rfl
  · obtain ⟨a, o, rfl, e, q⟩ := h
    cases q with
    | k _ _ => exact .inr (.inr (.inl ⟨rfl, .inl ⟨_, e⟩⟩))
    | t _ _ => exact .inr (.inr (.inl ⟨rfl, .inr ⟨_, e⟩⟩))
  · cases t
def mRead (T : String) (g : D → List D → Option Vl) (mo : Rho → Out Vl) (ma : Rho → Out (List Vl)) (ρ : Rho) : Out Vl :=
  (mo ρ).bind fun v ρ1 => (oOf ((rd ρ1 v).bind fun x => if isTy T x = true then some () else none) ρ1 : Out Unit).bind fun _ _ => (ma ρ1).bind fun vs ρ2 => oOf ((rd ρ2 v).bind fun x => (rdAll ρ2 vs).bind fun xs => g x xs) ρ2
section
variable {o e : Expr} {es : List Expr} {name : Str} {apos cpos : Pos} {T id : String} {g : D → List D → Option Vl} {mo : Rho → Out Vl} {ma : Rho → Out (List Vl)}
theorem ve_read (pa : PlainAttrs T) (slot : Slot T name id) (hty : typeOf (.builtin id) = pure (.type "method_descriptor")) (hm : MrdOk X id g) (ho : VE X cv W o mo) (ha : VA X cv W (e :: es) ma)
    (hbase : attributeBase o name X.env (eval o X.env) = eval o X.env := by rfl)
    (hfew : ((backTo cpos (starEach (e :: es) X.env)).all (fun x => !x.1) && (backToKw cpos (keywordEach [] X.env)).all (fun x => x.1.isSome)
      && decide ((e :: es).length + ([] : List Keyword).length + (if ([] : List Keyword).isEmpty then 0 else 1) < 30)) = true := by rfl)
    (hline : (apos.endLine == cpos.line) = true := by rfl) (hs : starEach (e :: es) X.env = (false, eval e X.env) :: starEach es X.env := by rfl) (hplain : (backTo cpos (starEach es X.env)).any (·.1) = false := by rfl) :
    VE X cv W (.Call (.Attribute o name apos) (e :: es) [] cpos) (mRead T g mo ma) := by
  obtain ⟨rr, h1, h2⟩ := hm
  refine PE.imp (pe_bm pa slot hty h1 ho ha hbase hfew hline hs hplain) fun σ H Q ⟨Z, ρ, r, h⟩ => ?_
  refine tV.bind (S := SV X.K σ) monoV r h fun v ρ1 u H1 Z1 r1 f1 q1 k1 => ?_
  cases ed : rd ρ1 v with
  | none => rw [ed] at k1; exact k1.elim
  | some d =>
    rw [ed] at k1
    by_cases ht : isTy T d = true
    · have k1 : Fits (cy X cv W) Z1 σ ρ1 H1 (SV X.K σ H1) ((oOf (if isTy T d = true then some () else none) ρ1 : Out Unit).bind _) Q := k1
      rw [if_pos ht] at k1
      refine ⟨isTy_ty (rd_ok r1 q1 ed) ht, ?_⟩
      refine tA.bind (S := SV X.K σ) monoV r1 k1 fun vs ρ2 us H2 Z2 r2 f2 q2 k2 => ?_
      cases e1 : rd ρ2 v with
      | none => rw [e1] at k2; exact k2.elim
      | some x =>
        cases e2 : rdAll ρ2 vs with
        | none => rw [e1, e2] at k2; exact k2.elim
        | some xs =>
          rw [e1, e2] at k2
          have k2 : Fits (cy X cv W) Z2 σ ρ2 H2 (SV X.K σ H2) (oOf (g x xs) ρ2) Q := k2
          cases e3 : g x xs with
          | none => rw [e3] at k2; exact k2.elim
          | some w =>
            rw [e3] at k2
            exact h2 Z2 H2 u us x xs w Q (rd_ok r2 (q1.keep r1 f2) e1) (rdAll_ok r2 q2 e2) e3 fun v' H' xt q => k2.ext r2 xt (q.vl r2)
    · have k1 : Fits (cy X cv W) Z1 σ ρ1 H1 (SV X.K σ H1) ((oOf (if isTy T d = true then some () else none) ρ1 : Out Unit).bind _) Q := k1
      rw [if_neg ht] at k1
      exact k1.elim
end
/-- l.count(x), l.index(x) -/
def gCount : D → List D → Option Vl
  | .list xs, [y] => if inOk y xs then some (.d (.int ((xs.countP fun z => PyData.eqv z y : Nat) : Int))) else none
  | _, _ => none
def rCount (K : PySem.W.Frag) : V → List V → Hp → VK → Prop := fun v us H Q => ∃ (a : Addr) (u : V) (y : D) (xs : List D), v = .ref a ∧ us = [u] ∧ Dp K H v (.list xs) ∧ Dp K H u y ∧ inOk y xs = true ∧ Q (.int ((xs.countP fun z => PyData.eqv z y : Nat) : Int)) H
theorem mt_countP (hu : X.A.units + 64 < cLine) : MtR X "list.count" (rCount X.K) := by
  rintro pins s σ H _ _ v us Q I rx rxs ⟨a, u, y, xs, rfl, rfl, hl, hy, ok, q⟩
  obtain ⟨p1, p2, p3⟩ := inOk_of ok
  cases rx
  cases rxs with | cons ry rt =>
  cases rt
  obtain ⟨bs, r1⟩ := Dp.reads I y u _ hy ry
  cases hl with | lst hs ha =>
  obtain ⟨its, rv, pl, _⟩ := I.list hs
  obtain ⟨as, r2⟩ := Dp.readsAll I xs _ its ha rv
  obtain ⟨o, n, g1, g2, _, g3⟩ := pl
  exact SeqAt.count_list_data (as := as) ⟨o, g1, g2, n, g3⟩ r2 r1 p2 p1 (by omega) ⟨.int _, H, I.tok _, ⟨_, rfl⟩, q⟩
theorem mrd_count (hu : X.A.units + 64 < cLine) : MrdOk X "list.count" gCount := ⟨_, mt_countP hu, fun Z H v us x xs r Q hx hxs e k => by
  unfold gCount at e
  split at e
  · split at e
    · rename_i ok
      cases e
      obtain ⟨p1, p2, _⟩ := inOk_of ok
      obtain ⟨u, rfl, hy⟩ := hxs.one
      obtain ⟨a, vs, rfl, h1, h2⟩ := hx
      exact ⟨a, u, _, _, rfl, rfl, .lst (.inl (.inl h1)) (h2.dp p2), hy.dp p1, ok, k _ _ Ext.refl (.int _)⟩
    · cases e
  · cases e⟩

/-! ### repr -/
noncomputable def reprOk (x : D) : Bool := x.plain && x.showable && !x.hasDict && decide (x.depth ≤ 60) && decide (x.shown.length ≤ sizeLine)
noncomputable def gRepr : List D → Option Vl
  | [x] => if reprOk x = true then some (.d (.str x.shown)) else none
  | _ => none
theorem reprOk_of {x : D} (h : reprOk x = true) : x.plain = true ∧ x.showable = true ∧ x.hasDict = false ∧ x.depth ≤ 60 ∧ x.shown.length ≤ sizeLine := by
  unfold reprOk at h
  rw [Bool.and_eq_true, Bool.and_eq_true, Bool.and_eq_true, Bool.and_eq_true, decide_eq_true_eq, decide_eq_true_eq, Bool.not_eq_true'] at h
  exact ⟨h.1.1.1.1, h.1.1.1.2, h.1.1.2, h.1.2, h.2⟩
def rRepr (K : PySem.W.Frag) : List V → Hp → VK → Prop := fun us H Q => ∃ (u : V) (x : D), us = [u] ∧ Dp K H u x ∧ reprOk x = true ∧ Q (.str x.shown) H
theorem call_reprP (hg : X.A.guards = some []) (hu : X.A.units + 64 < cLine) : CallR X (.builtin "repr") (rRepr X.K) := by
  rintro pins s σ H _ us Q I rv ⟨u, x, rfl, hx, ok, q⟩
  obtain ⟨p1, p2, p3, p4, p5⟩ := reprOk_of ok
  cases rv with | cons ry rt =>
  cases rt
  obtain ⟨as, r1⟩ := Dp.reads I x u _ hx ry
  have done : ∀ t, EP X pins σ Q (.str x.shown t) { s with toks := s.toks + 1 } := fun t => ⟨.str x.shown, H, I.tok _, ⟨_, rfl⟩, q⟩
  cases x with
  | none =>
    cases r1
    refine P.repr_of_none ?_
    have := done s.toks
    simpa only [PyData.shown] using this
  | bool b =>
    cases r1
    refine P.repr_of_bool ?_
    have := done s.toks
    simpa only [PyData.shown] using this
  | int i =>
    cases r1
    refine P.repr_of_int (by simpa [PyData.showable] using p2) ?_
    have := done s.toks
    simpa only [PyData.shown] using this
  | str z =>
    cases r1
    simp only [PyData.shown] at p5
    refine P.repr_of_str ?_ p5
    have := done s.toks
    simpa only [PyData.shown] using this
  | dict kvs => cases p1
  | list xs =>
    cases hx with | lst hs ha =>
    cases ry
    exact repr_of_reads' r1 p2 (PyData.noDict_hsm p3) hg (by omega) (fun _ _ e => e) (fun h' t tk k => ⟨.str _, H, I.kept k, ⟨_, rfl⟩, q⟩) p5
  | tuple xs =>
    cases hx with | tup hs ha =>
    cases ry
    exact repr_of_reads' r1 p2 (PyData.noDict_hsm p3) hg (by omega) (fun _ _ e => e) (fun h' t tk k => ⟨.str _, H, I.kept k, ⟨_, rfl⟩, q⟩) p5
theorem cok_repr (hg : X.A.guards = some []) (hu : X.A.units + 64 < cLine) : CallOk X (.builtin "repr") gRepr := ⟨_, call_reprP hg hu, fun Z H us xs r Q h e k => by
  unfold gRepr at e
  split at e
  · split at e
    · rename_i ok
      cases e
      obtain ⟨u, rfl, hx⟩ := h.one
      exact ⟨u, _, rfl, hx.dp (reprOk_of ok).1, ok, k _ _ Ext.refl (.str _)⟩
    · cases e
  · cases e⟩
end
end EV
set_option maxHeartbeats 400000
namespace EV
open PySem PySem.Spec PyProof.Rows L2
section
variable {X : Cx} {cv : Nat → Value} {W : WX}

/-! ### [f, g, h][i](e, ..) -/
inductive Sel (X : Cx) (cv : Nat → Value) (k n : Nat) : List V → List (Rho → Out Vl) → Prop
  | nil : Sel X cv k n [] []
  | cons {f : Addr} {fd : FuncData} {ps : List Str} {g : Rho → Out Vl} {vs : List V} {gs : List (Rho → Out Vl)} : FnG X.prog X.w X.K X.mg X.base cv k f fd ps g → ps.length = n → PySem.W.keepIn X.K (.ref f) = true → Binds X.K fd ps [] → Sel X cv k n vs gs → Sel X cv k n (.ref f :: vs) (g :: gs)
theorem Sel.length {k n : Nat} : ∀ {vs : List V} {gs : List (Rho → Out Vl)}, Sel X cv k n vs gs → vs.length = gs.length
  | _, _, .nil => rfl
  | _, _, .cons _ _ _ _ t => congrArg Nat.succ (Sel.length t)
theorem Sel.get {k n : Nat} : ∀ {vs : List V} {gs : List (Rho → Out Vl)} (i : Nat) {g : Rho → Out Vl}, Sel X cv k n vs gs → gs[i]? = some g →
    ∃ f fd ps, vs[i]? = some (.ref f) ∧ FnG X.prog X.w X.K X.mg X.base cv k f fd ps g ∧ ps.length = n ∧ PySem.W.keepIn X.K (.ref f) = true ∧ Binds X.K fd ps []
  | _, _, _, _, .nil, e => by simp at e
  | _, _, 0, _, .cons a b c d _, e => by simp at e; subst e; exact ⟨_, _, _, rfl, a, b, c, d⟩
  | _, _, i + 1, _, .cons _ _ _ _ t, e => Sel.get i t (by simpa using e)
def tK (vs : List V) : TA := fun _ H Q => Q vs H
theorem pa_k0 : PA X [] (tK []) := pa_nil
theorem pa_kf {x : Str} {f : Addr} {p : Pos} {es : List Expr} {vs : List V} (hg : Gl X x) (hm : X.mg x = some (.ref f)) (hr : PA X es (tK vs)) (hd : (x == ("__debug__" : Str)) = false := by decide) (hs : starEach (.Name x p :: es) X.env = (false, eval (.Name x p) X.env) :: starEach es X.env := by rfl) :
    PA X (.Name x p :: es) (tK (.ref f :: vs)) := PA.imp (pa_cons (pe_glob (v := .ref f) hg hm rfl hd) hr hs) fun σ H Q q => q
def mSel (n : Nat) (gs : List (Rho → Out Vl)) (mi : Rho → Out Vl) (m : Rho → Out (List Vl)) (ρ : Rho) : Out Vl :=
  (mi ρ).bind fun v ρ1 => match rd ρ1 v with
    | some (.int i) => match atI gs i with
      | some g => mCallD n g m ρ1
      | none => .st
    | _ => .st
theorem atI_sel {α β : Type} {vs : List α} {gs : List β} {i : Int} {g : β} (hl : vs.length = gs.length) (e : atI gs i = some g) : ∃ j : Nat, gs[j]? = some g ∧ atI vs i = vs[j]? := by
  unfold atI at e ⊢
  rw [hl]
  cases e1 : ixN gs.length i with
  | none => rw [e1] at e; cases e
  | some j =>
    rw [e1] at e
    exact ⟨j, e, rfl⟩
theorem ve_sel {k n : Nat} {es : List Expr} {b a : Expr} {as : List Expr} {p1 p2 pos : Pos} {vs : List V} {gs : List (Rho → Out Vl)} {mi : Rho → Out Vl} {m : Rho → Out (List Vl)} (hsel : Sel X cv k n vs gs) (hn : PA X es (tK vs)) (hfew : vs.length ≤ 1000) (hb : VE X cv W b mi) (hs : PlainIx b)
    (ha : VA X cv W (a :: as) m) (hr : RoomG k X.A) (tk : Takes X W)
    (hc : eval (.Call (.Subscript (.List es p1) b p2) (a :: as) [] pos) X.env = (do callWith pos (← eval (.Subscript (.List es p1) b p2) X.env) [] (backTo pos (starEach (a :: as) X.env)) (backToKw pos (keywordEach [] X.env))) := by rfl)
    (he : starEach (a :: as) X.env = (false, eval a X.env) :: starEach as X.env := by rfl) (hpl : (backTo pos (starEach as X.env)).any (·.1) = false := by rfl) :
    VE X cv W (.Call (.Subscript (.List es p1) b p2) (a :: as) [] pos) (mSel n gs mi m) := by
  constructor
  intro pins s σ H Q I ⟨Z, ρ, r, h⟩
  refine Call_ ?_ hc
  have pf : PE X (.Subscript (.List es p1) b p2) (tOp (rIxL X.K) (tLst (tK vs)) (tV (cy X cv W) mi)) := pe_ix ix_list (pe_lst hn) hb hs
  refine thn (pf.run pins s σ H (fun v H2 => ∃ f fd ps g, v = .ref f ∧ FnG X.prog X.w X.K X.mg X.base cv k f fd ps g ∧ ps.length = n ∧ PySem.W.keepIn X.K (.ref f) = true ∧ Binds X.K fd ps [] ∧ tV (cy X cv W) (mCallD n g m) σ H2 Q) I ?_) fun u s1 q => ?_
  · refine ⟨line1000 hfew, fun p np => ?_⟩
    have xt := Ext.new (o := HO.lst vs) np
    have r0 := xt.rel r
    have h0 := Fits.later (S' := SV X.K σ (upd H p (.lst vs))) h r0 (xt.fr) fun ρ' Z' H' v u q => q.start fun b e => by
      cases e2 : H b with
      | none => rfl
      | some o => rw [xt _ _ e2] at e; cases e
    refine tV.bind (S := SV X.K σ) monoV r0 h0 fun v ρ1 u H1 Z1 r1 f1 q1 k1 => ?_
    split at k1
    · rename_i i ei
      split at k1
      · rename_i g eg
        obtain ⟨j, g1, g2⟩ := atI_sel hsel.length eg
        obtain ⟨f, fd, ps, e1, e2, e3, e4, e5⟩ := hsel.get j g1
        have qi := rd_ok r1 q1 ei
        cases qi
        have kp : H1 p = some (.lst vs) := f1.keep _ _ upd_same fun ow => by
          obtain ⟨_, o, e, _⟩ := r.own ow
          rw [np] at e; cases e
        refine ⟨p, vs, i, .ref f, rfl, rfl, .inl (.inl kp), g2.trans e1, f, fd, ps, g, rfl, e2, e3, e4, e5, Z1, ρ1, r1, ?_⟩
        exact Fits.later (S' := SV X.K σ H1) k1 r1 Fr.refl fun ρ' Z' H' v u q => q
      · exact k1.elim
    · exact k1.elim
  · obtain ⟨v, H2, I2, rv, f, fd, ps, g, rfl, F, hl, hk, hb2, t⟩ := q
    obtain rfl : u = .ref f := rv
    refine PySem.W.callWith_K (h₀ := X.base) I2.ok.mod.kin hk (thn (ha.run pos pins s1 σ H2 _ I2 (callD_core hl t)) ?_) he hpl
    rintro us s2 ⟨vs2, H3, I3, rv2, q2⟩
    exact ⟨I3.kIn, run_G F hr hb2 tk I3 rv2 q2⟩

/-! ### l.index(x) -/
def gIndex : D → List D → Option Vl
  | .list xs, [y] => if SeqAt.shaped (.list xs) && SeqAt.shaped y then (xs.findIdx? fun z => PyData.eqv z y).map fun j => .d (.int (j : Nat)) else none
  | _, _ => none
theorem RpAll.dpl {K : PySem.W.Frag} {Z : Zs} {H : Hp} : ∀ {ds : List D} {vs : List V}, RpAll K Z H vs ds → PyData.canLayAll0 ds = true → DpAll K H vs ds := fun {ds vs} h p => h.dp (PyData.plainAll_of_canLay0 ds p)
theorem mrd_index (hu : X.A.units + 65 < cLine) : MrdOk X "list.index" gIndex := ⟨_, mt_indexD hu, fun Z H v us x xs r Q hx hxs e k => by
  unfold gIndex at e
  split at e
  · rename_i ys y
    split at e
    · rename_i ok
      rw [Bool.and_eq_true] at ok
      cases ei : ys.findIdx? fun z => PyData.eqv z y with
      | none => rw [ei] at e; cases e
      | some j =>
        rw [ei] at e
        cases e
        obtain ⟨h1, h2, h3⟩ := List.findIdx?_eq_some_iff_getElem.mp ei
        obtain ⟨u, rfl, hy⟩ := hxs.one
        obtain ⟨a, vs, rfl, g1, g2⟩ := hx
        refine ⟨a, u, y, ys, j, ys[j], rfl, rfl, .lst (.inl (.inl g1)) (g2.dpl (SeqAt.canLay_of_shaped ok.1)), hy.dp (PyData.plain_of_canLay0 _ (SeqAt.canLay_of_shaped ok.2)), ok.1, ok.2, List.getElem?_eq_getElem h1, h2, fun m z hm hz => ?_, k _ _ Ext.refl (.int _)⟩
        obtain ⟨hm2, ez⟩ := List.getElem?_eq_some_iff.mp hz
        have := h3 m hm
        rw [ez] at this
        simpa using this
    · cases e
  · cases e⟩
/-! ### name += e, name *= e -/
def gAddI : D → D → Option Vl
  | .int i, .int j => some (.d (.int (i + j)))
  | .str a, .str b => if a.length + b.length ≤ sizeLine then some (.d (.str (a ++ b))) else none
  | _, _ => none
theorem iok_add : BinOk X (inplaceOp .Add) gAddI := ⟨_, OpR.or iop_add iop_add_str, fun Z H u w x y r Q hx hy e k => by
  unfold gAddI at e
  split at e
  · cases e; cases hx; cases hy; exact .inl ⟨_, _, rfl, rfl, k _ _ Ext.refl (.int _)⟩
  · split at e
    · rename_i h; cases e; cases hx; cases hy; exact .inr ⟨_, _, rfl, rfl, h, k _ _ Ext.refl (.str _)⟩
    · cases e
  · cases e⟩
end
end EV
set_option maxHeartbeats 400000
namespace EV
open PySem PySem.Spec PyProof.Rows L2

/-! ### defs of the module -/
structure DefIn (K : PySem.W.Frag) (mg : Str → Option Value) (y x : Str) (st : Stmt) (ps : List Str) : Prop where
  ex : ∃ (f : Addr) (fd : FuncData), mg y = some (.ref f) ∧ Fun K x x st f fd ∧ Binds K fd ps []
structure Has (P : Program) (w : World) (K : PySem.W.Frag) (mg : Str → Option Value) (base : Heap) (cv : Nat → Value) (k : Nat) (x : Str) (n : Nat) (g : Rho → Out Vl) : Prop where
  ex : ∃ (f : Addr) (fd : FuncData) (ps : List Str), ps.length = n ∧ mg x = some (.ref f) ∧ PySem.W.keepIn K (.ref f) = true ∧ Binds K fd ps [] ∧ FnG P w K mg base cv k f fd ps g
structure HasE (P : Program) (w : World) (K : PySem.W.Frag) (mg : Str → Option Value) (base : Heap) (cv : Nat → Value) (k : Nat) (x : Str) (g : Addr → Nat → Rho → Out Vl) : Prop where
  ex : ∃ (f : Addr) (fd : FuncData) (ps : List Str), ps.length = 1 ∧ mg x = some (.ref f) ∧ PySem.W.keepIn K (.ref f) = true ∧ Binds K fd ps [] ∧ FnE P w K mg base cv k f fd ps g
section
variable {P : Program} {w : World} {K : PySem.W.Frag} {mg : Str → Option Value} {base : Heap} {cv : Nat → Value} {k : Nat} {y x : Str} {st : Stmt} {N ps : List Str}
theorem has_mk {g : Rho → Out Vl} {mb : Rho → SR} (D : DefIn K mg y x st ps) (S : FnScope N ps (defScope st))
    (hb : ∀ (f : Addr) (cdv : Value) (A : Around) (outer : List Env) (s : Shared) (H : Hp) (E : XK), RoomG k (A.deeper (envOfC x (defScope st) s.heap.objs.size f cdv)) →
      VB (cxOf (L2.CX P w) P w K mg base N x (defScope st) f cdv A outer s H E) cv (fun cls d _ H' => E cls d H') (defBody st) mb)
    (hg : ∀ as : Rho, as.length = ps.length → g as = .st ∨ exitF as (mb (pad as N.length)) = g as) : Has P w K mg base cv (k + 1) y ps.length g := by
  obtain ⟨f, fd, h1, h2, h3⟩ := D.ex
  exact ⟨f, fd, ps, rfl, h1, h2.kp, h3, fn_okG h2 S fun cdv A outer s H E hr => ⟨mb, hb f cdv A outer s H E hr, hg⟩⟩
theorem has_mkE {g : Addr → Nat → Rho → Out Vl} {mb : Addr → Nat → Rho → SR} (D : DefIn K mg y x st ps) (h1 : ps.length = 1) (S : FnScope N ps (defScope st))
    (hb : ∀ (f : Addr) (cdv : Value) (A : Around) (outer : List Env) (s : Shared) (H : Hp) (E : XK) (p : Addr × Obj) (c : Nat), L2H.RoomH k (A.deeper (envOfC x (defScope st) s.heap.objs.size f cdv)) → Zc (cv c) none p.2 → (∃ vs, p.2.data = .fields vs) →
      VB (L2H.cxH (L2.CX P w) P w K mg base N x (defScope st) f cdv A outer s H E p) cv (fun cls d _ H' => E cls d H') (defBody st) (mb p.1 c))
    (hg : ∀ a c, ∀ as : Rho, as.length = ps.length → g a c as = .st ∨ exitF as (mb a c (pad as N.length)) = g a c as) : HasE P w K mg base cv (k + 1) y g := by
  obtain ⟨f, fd, g1, g2, g3⟩ := D.ex
  exact ⟨f, fd, ps, h1, g1, g2.kp, g3, fn_okE g2 S fun cdv A outer s H E p c hr hz hd => ⟨mb p.1 c, hb f cdv A outer s H E p c hr hz hd, hg p.1 c⟩⟩
/-- what the body's context lets out, passes on -/
theorem tk_of {qual : Str} {sc : Scope} {f : Addr} {cd : Value} {A : Around} {outer : List Env} {s : Shared} {H : Hp} {E : XK} : Takes (cxOf (L2.CX P w) P w K mg base N qual sc f cd A outer s H E) (fun cls d _ H' => E cls d H') := takes_of rfl rfl rfl rfl
theorem hp_of {qual : Str} {sc : Scope} {f : Addr} {cd : Value} {A : Around} {outer : List Env} {s : Shared} {H : Hp} {E : XK} :
    PassesOwn (model P w) (A.deeper (envOfC qual sc s.heap.objs.size f cd)) (envOfC qual sc s.heap.objs.size f cd) (cxOf (L2.CX P w) P w K mg base N qual sc f cd A outer s H E).xe := passes_of (X := cxOf (L2.CX P w) P w K mg base N qual sc f cd A outer s H E) rfl
theorem RoomG.un {j : Nat} {A : Around} (r : RoomG j A) : A.units + 65 < cLine := by have := r.room.un; omega
theorem RoomG.un0 {j : Nat} {A : Around} (r : RoomG j A) : A.units + 64 < cLine := by have := r.room.un; omega
end
section
variable {X : Cx} {cv : Nat → Value} {W : WX}
section
variable {k j n l : Nat} {g : Rho → Out Vl} {x : Str} {p pos : Pos} {e : Expr} {es : List Expr} {m : Rho → Out (List Vl)}
/-- the call of a def: by values; one argument lent -/
theorem c_d (F : Has X.prog X.w X.K X.mg X.base cv k x n g) (hr : RoomG j X.A) (hk : k ≤ j) (tk : Takes X W) (ha : VA X cv W (e :: es) m) (hg : Gl X x := by rfl) (hdb : (x == ("__debug__" : Str)) = false := by decide)
    (he : starEach (e :: es) X.env = (false, eval e X.env) :: starEach es X.env := by rfl) (hpl : (backTo pos (starEach es X.env)).any (·.1) = false := by rfl) : VE X cv W (.Call (.Name x p) (e :: es) [] pos) (mCallD n g m) := by
  obtain ⟨f, fd, ps, h1, h2, h3, h4, h5⟩ := F.ex
  exact ve_call h5 h1 (hr.mono hk) hg h2 h3 h4 tk ha hdb he hpl
theorem c_l (l : Nat) (F : Has X.prog X.w X.K X.mg X.base cv k x n g) (hr : RoomG j X.A) (hk : k ≤ j) (tk : Takes X W) (ha : VA X cv W (e :: es) m) (hg : Gl X x := by rfl) (hdb : (x == ("__debug__" : Str)) = false := by decide)
    (he : starEach (e :: es) X.env = (false, eval e X.env) :: starEach es X.env := by rfl) (hpl : (backTo pos (starEach es X.env)).any (·.1) = false := by rfl) : VE X cv W (.Call (.Name x p) (e :: es) [] pos) (mCallL n l g m) := by
  obtain ⟨f, fd, ps, h1, h2, h3, h4, h5⟩ := F.ex
  exact ve_callL h5 h1 (hr.mono hk) hg h2 h3 h4 tk ha hdb he hpl
/-- the defs of a display -/
structure SelH (X : Cx) (cv : Nat → Value) (k n : Nat) (es : List Expr) (gs : List (Rho → Out Vl)) : Prop where
  ex : ∃ vs, vs.length = gs.length ∧ Sel X cv k n vs gs ∧ PA X es (tK vs)
theorem FnG.mono {P : Program} {w : World} {K : PySem.W.Frag} {mg : Str → Option Value} {base : Heap} {i k : Nat} {f : Addr} {fd : FuncData} {ps : List Str} {g : Rho → Out Vl} (F : FnG P w K mg base cv i f fd ps g) (h : i ≤ k) : FnG P w K mg base cv k f fd ps g :=
  ⟨fun A outer s H args us vs Q E hr => F.run A outer s H args us vs Q E (hr.mono h)⟩
theorem sel_nil : SelH X cv k n [] [] := ⟨[], rfl, .nil, pa_k0⟩
theorem sel_cons {gs : List (Rho → Out Vl)} (F : Has X.prog X.w X.K X.mg X.base cv j x n g) (hj : j ≤ k) (hs : SelH X cv k n es gs) (hg : Gl X x := by rfl) (hdb : (x == ("__debug__" : Str)) = false := by decide)
    (he : starEach (.Name x p :: es) X.env = (false, eval (.Name x p) X.env) :: starEach es X.env := by rfl) : SelH X cv k n (.Name x p :: es) (g :: gs) := by
  obtain ⟨f, fd, ps, h1, h2, h3, h4, h5⟩ := F.ex
  obtain ⟨vs, g1, g2, g3⟩ := hs.ex
  exact ⟨.ref f :: vs, congrArg Nat.succ g1, .cons (h5.mono hj) h1 h3 h4 g2, pa_kf hg h2 g3 hdb he⟩
theorem c_sel {es' : List Expr} {b : Expr} {p1 p2 : Pos} {gs : List (Rho → Out Vl)} {mi : Rho → Out Vl} (F : SelH X cv k n es' gs) (hfew : gs.length ≤ 1000) (hr : RoomG j X.A) (hk : k ≤ j) (tk : Takes X W) (hb : VE X cv W b mi) (hs : PlainIx b) (ha : VA X cv W (e :: es) m)
    (hc : eval (.Call (.Subscript (.List es' p1) b p2) (e :: es) [] pos) X.env = (do callWith pos (← eval (.Subscript (.List es' p1) b p2) X.env) [] (backTo pos (starEach (e :: es) X.env)) (backToKw pos (keywordEach [] X.env))) := by rfl)
    (he : starEach (e :: es) X.env = (false, eval e X.env) :: starEach es X.env := by rfl) (hpl : (backTo pos (starEach es X.env)).any (·.1) = false := by rfl) : VE X cv W (.Call (.Subscript (.List es' p1) b p2) (e :: es) [] pos) (mSel n gs mi m) := by
  obtain ⟨vs, g1, g2, g3⟩ := F.ex
  exact ve_sel g2 g3 (by rw [g1]; exact hfew) hb hs ha (hr.mono hk) tk hc he hpl
/-- built-in functions, types -/
theorem c_b {id : String} {g : List D → Option Vl} (hc : CallOk X (.builtin id) g) (hv : bootBuiltins x = some (.builtin id)) (hm : X.mg x = none) (ha : VA X cv W (e :: es) m) (hg : Gl X x := by rfl) (hn : x ≠ "__name__" := by decide) (hdb : (x == ("__debug__" : Str)) = false := by decide)
    (he : starEach (e :: es) X.env = (false, eval e X.env) :: starEach es X.env := by rfl) (hpl : (backTo pos (starEach es X.env)).any (·.1) = false := by rfl) : VE X cv W (.Call (.Name x p) (e :: es) [] pos) (mCall g m) := ve_callB hc hg hm hv ha hn hdb he hpl
theorem c_t {T : String} {g : List D → Option Vl} (hc : CallOk X (.type T) g) (hv : bootBuiltins x = some (.type T)) (hm : X.mg x = none) (ha : VA X cv W (e :: es) m) (hg : Gl X x := by rfl) (hn : x ≠ "__name__" := by decide) (hdb : (x == ("__debug__" : Str)) = false := by decide)
    (he : starEach (e :: es) X.env = (false, eval e X.env) :: starEach es X.env := by rfl) (hpl : (backTo pos (starEach es X.env)).any (·.1) = false := by rfl) : VE X cv W (.Call (.Name x p) (e :: es) [] pos) (mCall g m) := ve_callTy hc hg hm hv ha hn hdb he hpl
end
/-! ### short words: v0 i, v1 i, v2 i: a name of the def, a cell, of the def around -/
section
variable {x : Str} {pos : Pos}
theorem v0 (i : Nat) (hN : X.N[i]? = some x := by rfl) (hv : X.env.scope.names.lookup x = some .local := by rfl) (hd : (x == ("__debug__" : Str)) = false := by decide) (hcd : (x == ("__classdict__" : Str)) = false := by decide) : VE X cv W (.Name x pos) (mVar i) := ve_var hN (.inl hv) hd hcd
theorem v1 (i : Nat) (hN : X.N[i]? = some x := by rfl) (hv : X.env.scope.names.lookup x = some .cell := by rfl) (hd : (x == ("__debug__" : Str)) = false := by decide) (hcd : (x == ("__classdict__" : Str)) = false := by decide) : VE X cv W (.Name x pos) (mVar i) := ve_var hN (.inr (.inl hv)) hd hcd
theorem v2 (i : Nat) (hN : X.N[i]? = some x := by rfl) (hv : X.env.scope.names.lookup x = some .free := by rfl) (hd : (x == ("__debug__" : Str)) = false := by decide) (hcd : (x == ("__classdict__" : Str)) = false := by decide) : VE X cv W (.Name x pos) (mVar i) := ve_var hN (.inr (.inr hv)) hd hcd
theorem a_c {e : Expr} {es : List Expr} {ma : Rho → Out Vl} {mr : Rho → Out (List Vl)} (ha : VE X cv W e ma) (hr : VA X cv W es mr) (hs : starEach (e :: es) X.env = (false, eval e X.env) :: starEach es X.env := by rfl) : VA X cv W (e :: es) (mCons ma mr) := va_cons ha hr hs
theorem s_set (i : Nat) {e : Expr} {pos' : Pos} {m : Rho → Out Vl} (hN : X.N.Nodup) (he : VE X cv W e m) (hi : X.N[i]? = some x := by rfl) (hx : Loc X.env.scope x := by first | exact .inl rfl | exact .inr rfl) (hs : swapsWith e (some (.Name x pos')) pos.line X.env = pure false := by rfl)
    (hf : X.fn x = true ∨ X.env.scope.names.lookup x = some .local := by first | exact .inl rfl | exact .inr rfl) : VS X cv W (.Assign [.Name x pos'] e pos) (mSet i m) := vs_set hN hi hx he hs hf
theorem s_aug (i : Nat) {e : Expr} {op : Operator} {pos' : Pos} {g : D → D → Option Vl} {m : Rho → Out Vl} (hN : X.N.Nodup) (ho : BinOk X (inplaceOp op) g) (he : VE X cv W e m) (hi : X.N[i]? = some x := by rfl) (hx : Loc X.env.scope x := by first | exact .inl rfl | exact .inr rfl)
    (hf : X.fn x = true ∨ X.env.scope.names.lookup x = some .local := by first | exact .inl rfl | exact .inr rfl) : VS X cv W (.AugAssign (.Name x pos') op e pos) (mAug i g m) := vs_aug hN hi hx he ho hf
theorem g_n (i : Nat) (hN : X.N.Nodup) (hi : X.N[i]? = some x := by rfl) (hx : Loc X.env.scope x := by first | exact .inl rfl | exact .inr rfl) (hf : X.fn x = true ∨ X.env.scope.names.lookup x = some .local := by first | exact .inl rfl | exact .inr rfl) : VG X (.Name x pos) [i] (bName i) := vg_name hN hi hx hf
theorem g_c {e : Expr} {es : List Expr} {ts us : List Nat} {b : D → Rho → Option Rho} {bs : List D → Rho → Option Rho} (h1 : VG X e ts b) (h2 : VGs X es us bs) (hs : (assignEach (e :: es) X.env).map (·.2) = assign e X.env :: (assignEach es X.env).map (·.2) := by rfl) : VGs X (e :: es) (ts ++ us) (bCons b bs) := vgs_cons h1 h2 hs
theorem g_t (n : Nat) {es : List Expr} {k : Nat} {ts : List Nat} {bs : List D → Rho → Option Rho} (h : VGs X es ts bs) (hc : X.calm = true := by rfl) (hn : (assignEach es X.env).length = n := by rfl) (hst : (assignEach es X.env).findIdx? (·.1) = none := by rfl) : VG X (.Tuple es k pos) ts (bTup n bs) := vg_tup hc h hn hst
theorem s_expr {e : Expr} {m : Rho → Out Vl} (he : VE X cv W e m) (hs : swapsWith e none pos.line X.env = pure false := by rfl) : VS X cv W (.Expr e pos) (mExpr m) := vs_expr he hs
theorem cmp {op : CmpOp} {a b : Expr} {g : D → D → Option Vl} {ma mb : Rho → Out Vl} (ho : BinOk X (compareOp op) g) (ha : VE X cv W a ma) (hb : VE X cv W b mb) (hm : behindInMarks op b = false := by rfl) : VE X cv W (.Compare a [op] [b] pos) (mBin g ma mb) := ve_cmp ho ha hb hm
theorem tcmp {op : CmpOp} {a b : Expr} {g : D → D → Option Vl} {ma mb : Rho → Out Vl} (ho : BinOk X (compareOp op) g) (ha : VE X cv W a ma) (hb : VE X cv W b mb) (hm : behindInMarks op b = false := by rfl) : VT X cv W (.Compare a [op] [b] pos) (mTst (mBin g ma mb)) := vt_cmp ho ha hb hm
theorem chn {op op' : CmpOp} {a b c : Expr} {g g' : D → D → Option Vl} {ma mb mc : Rho → Out Vl} (ho : BinOk X (compareOp op) g) (ho' : BinOk X (compareOp op') g') (ha : VE X cv W a ma) (hb : VE X cv W b mb) (hc : VE X cv W c mc) (hm : lastMarks [op, op'] [b, c] = false := by rfl) :
    VE X cv W (.Compare a [op, op'] [b, c] pos) (mChain g g' ma mb mc) := ve_chain ho ho' ha hb hc hm
theorem tchn {op op' : CmpOp} {a b c : Expr} {g g' : D → D → Option Vl} {ma mb mc : Rho → Out Vl} (ho : BinOk X (compareOp op) g) (ho' : BinOk X (compareOp op') g') (ha : VE X cv W a ma) (hb : VE X cv W b mb) (hc : VE X cv W c mc) (hm : lastMarks [op, op'] [b, c] = false := by rfl) :
    VT X cv W (.Compare a [op, op'] [b, c] pos) (mTst (mChain g g' ma mb mc)) := vt_chain ho ho' ha hb hc hm
theorem tru {a : Expr} {m : Rho → Out Vl} (ha : VE X cv W a m) (he : ∀ whole, isTrue a X.env whole = (do let v ← whole; standAt a.pos; holding [v] (truthy v)) := by intro _; rfl) : VT X cv W a (mTru m) := vt_tru ha he
theorem bits {o : Expr} {apos : Pos} {m : Rho → Out Vl} (ho : VE X cv W o m) (hbase : attributeBase o "bit_length" X.env (eval o X.env) = eval o X.env := by rfl) (hline : (apos.endLine == pos.line) = true := by rfl) : VE X cv W (.Call (.Attribute o "bit_length" apos) [] [] pos) (mUn gBits m) := ve_bits ho hbase hline
section
variable {e : Expr} {es : List Expr} {name : Str} {p apos cpos : Pos} {id : String} {g : List D → List D → Option (List D × D)} {m : Rho → Out (List Vl)}
theorem mu (i : Nat) (slot : Slot "list" name id) (hty : typeOf (.builtin id) = pure (.type "method_descriptor")) (hm : MutOk X id g) (hv : Vis X.env.scope x) (ha : VA X cv W (e :: es) m) (hN : X.N[i]? = some x := by rfl)
    (hd : (x == ("__debug__" : Str)) = false := by decide) (hcd : (x == ("__classdict__" : Str)) = false := by decide)
    (hbase : attributeBase (.Name x p) name X.env (eval (.Name x p) X.env) = eval (.Name x p) X.env := by rfl)
    (hfew : ((backTo cpos (starEach (e :: es) X.env)).all (fun x => !x.1) && (backToKw cpos (keywordEach [] X.env)).all (fun x => x.1.isSome)
      && decide ((e :: es).length + ([] : List Keyword).length + (if ([] : List Keyword).isEmpty then 0 else 1) < 30)) = true := by rfl)
    (hline : (apos.endLine == cpos.line) = true := by rfl) (hs : starEach (e :: es) X.env = (false, eval e X.env) :: starEach es X.env := by rfl) (hplain : (backTo cpos (starEach es X.env)).any (·.1) = false := by rfl) :
    VE X cv W (.Call (.Attribute (.Name x p) name apos) (e :: es) [] cpos) (mMut i g m) := ve_mut PySem.F.plainAttrs_list slot hty hm hN hv hd hcd ha hbase hfew hline hs hplain
theorem mu0 (i : Nat) (slot : Slot "list" name id) (hty : typeOf (.builtin id) = pure (.type "method_descriptor")) (hm : MutOk X id g) (hv : Vis X.env.scope x) (hN : X.N[i]? = some x := by rfl)
    (hd : (x == ("__debug__" : Str)) = false := by decide) (hcd : (x == ("__classdict__" : Str)) = false := by decide)
    (hbase : attributeBase (.Name x p) name X.env (eval (.Name x p) X.env) = eval (.Name x p) X.env := by rfl) (hline : (apos.endLine == cpos.line) = true := by rfl) :
    VE X cv W (.Call (.Attribute (.Name x p) name apos) [] [] cpos) (mMut i g mNil) := ve_mut0 PySem.F.plainAttrs_list slot hty hm hN hv hd hcd hbase hline
end
end
/-! ### exceptions of the module -/
structure Exn (K : PySem.W.Frag) (mg : Str → Option Value) (x : Str) (C : Addr) : Prop where
  gl : mg x = some (.ref C)
  ok : PySem.W.excIn K C [.type "ValueError", .type "Exception", .type "BaseException", .type "object"] "ValueError.__new__" = true
  kp : PySem.W.keepIn K (.ref C) = true
  sb : PySem.W.subIn K (.ref C) (.type "BaseException") = some true
  ty : PySem.W.typeIn K (.ref C) = some (.type "type")
  c : ExcC K C
end
end EV
set_option maxHeartbeats 400000
namespace EV
open PySem PySem.Spec PyProof.Rows L2
section
variable {X : Cx} {cv : Nat → Value} {W : WX}
theorem s_raise (c : Nat) {C : Addr} {x m : Str} {j : Nat} {p p2 pos pos' : Pos} (E : Exn X.K X.mg x C) (hcv : cv c = .ref C) (tk : Takes X W) (hc : X.calm = true := by rfl) (hg : Gl X x := by rfl) (hdb : (x == ("__debug__" : Str)) = false := by decide) :
    VS X cv W (.Raise (some (.Call (.Name x p) [.Constant (.str m) j p2] [] pos)) none pos') (mRaise c) :=
  vs_raise hc tk (by rw [hcv]; exact pmk_own PySem.F.excBase_ValueError E.ok E.gl E.kp (raises_own E.sb E.ty) hg hdb)

/-! ### try: body, except C as n: return kind(n) -/
def gKind (kn : Nat → Str) (a : Addr) (c : Nat) (as : Rho) : Out Vl :=
  match as with
  | [.e b] => if b = a then .ok (.d (.str (kn c))) [.e a] else .st
  | _ => .st
def mTryK (i : Nat) (kn : Nat → Str) (mb : Rho → SR) (ρ : Rho) : SR :=
  match mb ρ with
  | .ex c ρ1 => if mayS ρ1 i = true then .rt (.d (.str (kn c))) (ρ1.set i .no) else .st
  | r => r
theorem kind_at {kn : Nat → Str} {i : Nat} {a : Addr} {c : Nat} {ρ : Rho} (my : mayS ρ i = true) : mRet (mCallE i a (gKind kn a c)) (ρ.set i (.e a)) = .rt (.d (.str (kn c))) (ρ.set i (.e a)) := by
  have hl := mayS_lt my
  have e : (ρ.set i (.e a))[i]? = some (.e a) := by rw [List.getElem?_set, if_pos rfl, if_pos hl]
  unfold mRet mCallE
  rw [e]
  dsimp only
  rw [if_pos rfl]
  unfold gKind
  dsimp only
  rw [if_pos rfl]
  rfl
theorem s_try {k j i : Nat} {kn : Nat → Str} {x y n : Str} {cz : Value} {body : List Stmt} {np p p1 pos pos' pos2 pos3 : Pos} {mb : Rho → SR} (F : HasE X.prog X.w X.K X.mg X.base cv k y (gKind kn)) (hN : X.N.Nodup) (hz : X.mg x = some cz) (tk : Takes X W) (hx : ∀ c, PySem.W.exmOne X.K (cv c) cz = some true)
    (hr : ∀ (a : Addr) (pn : List (Addr × Obj)), L2H.RoomH j (X.suite a pn).A) (hk : k ≤ j)
    (hb : ∀ (W' : WX) (pn : List (Addr × Obj)) (xe : Value → Shared → Prop), Takes (X.tr pn xe) W' → PassesOwn (model X.prog X.w) X.A X.env xe → VB (X.tr pn xe) cv W' body mb)
    (hs : X.stack = X.env :: X.outer := by rfl) (hf : X.env.frame = some X.env.locals := by rfl) (hi : X.N[i]? = some n := by rfl) (hln : X.env.kindOf n = some .local := by rfl) (hgx : Gl X x := by rfl) (hdx : (x == ("__debug__" : Str)) = false := by decide)
    (hgy : Gl X y := by rfl) (hdy : (y == ("__debug__" : Str)) = false := by decide) (hdn : (n == ("__debug__" : Str)) = false := by decide) (hcn : (n == ("__classdict__" : Str)) = false := by decide) :
    VS X cv W (.Try body [.ExceptHandler (some (.Name x np)) (some n) [.Return (some (.Call (.Name y p) [.Name n p1] [] pos2)) pos3] pos'] [] [] pos) (mTryK i kn mb) := by
  obtain ⟨f, fd, ps, h1, h2, h3, h4, h5⟩ := F.ex
  have core := vs_try (X := X) (cv := cv) (W := W) (i := i) (n := n) (x := x) (cz := cz) (body := body) (np := np) (pos := pos) (pos' := pos') (suite := []) (b0 := .Return (some (.Call (.Name y p) [.Name n p1] [] pos2)) pos3) (mb := mb)
    (ms := fun a c => mRet (mCallE i a (gKind kn a c))) (mh := fun c ρ => .rt (.d (.str (kn c))) (ρ.set i .no)) (tks := fun _ => true) hs hf hN hi hln ⟨hgx, hdx, .inl hz⟩ tk hx hb
    (fun a oe c pn hz hd => vb_one (vs_ret (ve_callE (X := X.suite a ((a, oe) :: pn)) h5 h1 (by
      have := hr a ((a, oe) :: pn)
      exact this.mono hk) List.mem_cons_self hz hd hgy h2 h3 h4 hi (.inl hln) hdn hcn hdy)))
    (fun a c ρ my => by
      rw [kind_at my]
      show SR.rt _ _ = _
      rw [List.set_set])
    (fun a c ρ ρ2 q my => by
      have e : ρ2 = ρ := by
        unfold mRet mCallE Out.toS at q
        split at q
        · rename_i e
          rcases q with q | q | q | ⟨_, q⟩ <;> cases q
        · rename_i v ρ1 e
          split at e
          · split at e
            · split at e
              · cases e
                rcases q with q | q | q | ⟨_, q⟩ <;> cases q
                rfl
              · cases e
            · cases e
          · cases e
        · rename_i e
          split at e
          · split at e
            · split at e <;> cases e
            · cases e
          · cases e
      rw [e]; exact my)
  have eq : mTryK i kn mb = mTry i (fun _ => true) mb (fun c ρ => .rt (.d (.str (kn c))) (ρ.set i .no)) := by
    funext ρ
    unfold mTryK mTry
    cases mb ρ <;> rfl
  rw [eq]
  exact core

/-! ### comprehensions, loops -/
section
variable {elt tg iter : Expr} {ifs : List Expr} {scope : Scope} {pos spos : Pos} {src : Rho → Out (List D)} {ts : List Nat} {t : D → Rho → Option Rho} {c : Rho → Out Bool} {e : Rho → Out Vl}
theorem lc (own : List (Str × Nat)) (hN : X.N.Nodup) (hi : VI X cv W tg iter src)
    (hg : ∀ (s : Shared) (H : Hp) (C : Addr) (cl : List (Str × Addr)) (fp : List Addr), VG (X.blk s H scope (compEnvC scope cl C X.env) fp) tg ts t) (ht : ∀ (s : Shared) (H : Hp) (C : Addr) (cl : List (Str × Addr)) (fp : List Addr), VTs (X.blk s H scope (compEnvC scope cl C X.env) fp) cv WF ifs c)
    (he : ∀ (s : Shared) (H : Hp) (C : Addr) (cl : List (Str × Addr)) (fp : List Addr), VE (X.blk s H scope (compEnvC scope cl C X.env) fp) cv WF elt e) (ok : blkC X.N X.env.scope scope own = true := by kernel_rfl) (hts : ∀ i ∈ ts, i ∈ own.map (·.2) := by decide) (hc : X.calm = true := by rfl) (hs : ∀ x, foldedSetIterable iter X.env x = pure x := by intro _; rfl) :
    VE X cv W (.ListComp elt [⟨tg, iter, ifs, 0⟩] scope pos) (mLc src t c e (own.map (·.2))) := ve_lc hc hN hi (blkOk_by ok) hts hg ht he hs
theorem s_lc (i : Nat) (own : List (Str × Nat)) {y : Str} {py : Pos} (hN : X.N.Nodup) (hi : VI X cv W tg iter src)
    (hg : ∀ (s : Shared) (H : Hp) (C : Addr) (cl : List (Str × Addr)) (fp : List Addr), VG (X.blk s H scope (compEnvC scope cl C X.env) fp) tg ts t) (ht : ∀ (s : Shared) (H : Hp) (C : Addr) (cl : List (Str × Addr)) (fp : List Addr), VTs (X.blk s H scope (compEnvC scope cl C X.env) fp) cv WF ifs c)
    (he : ∀ (s : Shared) (H : Hp) (C : Addr) (cl : List (Str × Addr)) (fp : List Addr), VE (X.blk s H scope (compEnvC scope cl C X.env) fp) cv WF elt e) (ok : blkC X.N X.env.scope scope own = true := by kernel_rfl) (hts : ∀ i ∈ ts, i ∈ own.map (·.2) := by decide) (hc : X.calm = true := by rfl) (hs : ∀ x, foldedSetIterable iter X.env x = pure x := by intro _; rfl)
    (hy : X.N[i]? = some y := by rfl) (hyl : X.env.scope.names.lookup y = some .local := by rfl) (hsw : swapsWith (.ListComp elt [⟨tg, iter, ifs, 0⟩] scope pos) (some (.Name y py)) spos.line X.env = pure true := by exact sw_true rfl rfl rfl (by decide +kernel)) :
    VS X cv W (.Assign [.Name y py] (.ListComp elt [⟨tg, iter, ifs, 0⟩] scope pos) spos) (mSet i (mLc src t c e (own.map (·.2)))) := vs_setLc hc hN hy hyl hsw hi (blkOk_by ok) hts hg ht he hs
end
section
variable {tg iter : Expr} {body : List Stmt} {pos : Pos} {src : Rho → Out (List D)} {ts : List Nat} {t : D → Rho → Option Rho} {mb : Rho → SR}
theorem s_for (hp : PassesOwn (model X.prog X.w) X.A X.env X.xe) (hi : VI X cv W tg iter src) (hg : VG X tg ts t) (hb : VB X cv W body mb) (hc : X.calm = true := by rfl) (hs : ∀ x, foldedSetIterable iter X.env x = pure x := by intro _; rfl) :
    VS X cv W (.For tg iter body [] pos) (mFor src t mb) := vs_for hp hc hi hg hb hs
end
def fuel : Nat := 1000000
def mWhile (c : Rho → Out Bool) (b : Rho → SR) (ρ : Rho) : SR := whileR c b fuel ρ
theorem s_while {c : Expr} {body : List Stmt} {pos : Pos} {mc : Rho → Out Bool} {mb : Rho → SR} (hp : PassesOwn (model X.prog X.w) X.A X.env X.xe) (hc : VT X cv W c mc) (hb : VB X cv W body mb) : VS X cv W (.While c body [] pos) (mWhile mc mb) := vs_while (fun _ => fuel) hp hc hb
theorem i_r1 {tg a : Expr} {p pos : Pos} {m : Rho → Out (List Vl)} (hm : X.mg "range" = none) (ha : VA X cv W [a] m) (hg : Gl X "range" := by rfl) (hs : starEach [a] X.env = [(false, eval a X.env)] := by rfl) : VI X cv W tg (.Call (.Name "range" p) [a] [] pos) (mRng1 m) := vi_rng1 hg hm ha hs
theorem i_r2 {tg a b : Expr} {p pos : Pos} {m : Rho → Out (List Vl)} (hm : X.mg "range" = none) (ha : VA X cv W [a, b] m) (hg : Gl X "range" := by rfl) (hs : starEach [a, b] X.env = [(false, eval a X.env), (false, eval b X.env)] := by rfl) (hs2 : starEach [b] X.env = [(false, eval b X.env)] := by rfl) :
    VI X cv W tg (.Call (.Name "range" p) [a, b] [] pos) (mRng2 m) := vi_rng2 hg hm ha hs hs2
section
variable {x y z : Str} {a b c : Expr} {m : Rho → Out (List Vl)} {px py pz pt pos : Pos} {kt k2 : Nat} {pt2 : Pos}
theorem s_par2 (i j : Nat) (hN : X.N.Nodup) (ha : VA X cv W [a, b] m) (hc : X.calm = true := by rfl) (hi : X.N[i]? = some x := by rfl) (hj : X.N[j]? = some y := by rfl) (hij : i ≠ j := by decide) (hx : X.env.scope.names.lookup x = some .local := by rfl) (hy : X.env.scope.names.lookup y = some .local := by rfl)
    (hw : swappedStores [.Tuple [.Name x px, .Name y py] kt pt] (.Tuple [a, b] k2 pt2) X.env = pure (some [x, y]) := by rfl) (hs : swapsWithSole [.Tuple [.Name x px, .Name y py] kt pt] (.Tuple [a, b] k2 pt2) pos.line X.env = pure false := by rfl) :
    VS X cv W (.Assign [.Tuple [.Name x px, .Name y py] kt pt] (.Tuple [a, b] k2 pt2) pos) (par2 i j m) := vs_par2 hc hN hi hj hij hx hy ha hw hs
theorem s_par3 (i j l : Nat) (hN : X.N.Nodup) (ha : VA X cv W [a, b, c] m) (hc : X.calm = true := by rfl) (hi : X.N[i]? = some x := by rfl) (hj : X.N[j]? = some y := by rfl) (hl : X.N[l]? = some z := by rfl) (hij : i ≠ j := by decide) (hil : i ≠ l := by decide) (hjl : j ≠ l := by decide)
    (hx : X.env.scope.names.lookup x = some .local := by rfl) (hy : X.env.scope.names.lookup y = some .local := by rfl) (hz : X.env.scope.names.lookup z = some .local := by rfl)
    (hw : swappedStores [.Tuple [.Name x px, .Name y py, .Name z pz] kt pt] (.Tuple [a, b, c] k2 pt2) X.env = pure (some [x, y, z]) := by rfl) (hs : swapsWithSole [.Tuple [.Name x px, .Name y py, .Name z pz] kt pt] (.Tuple [a, b, c] k2 pt2) pos.line X.env = pure false := by rfl) :
    VS X cv W (.Assign [.Tuple [.Name x px, .Name y py, .Name z pz] kt pt] (.Tuple [a, b, c] k2 pt2) pos) (par3 i j l m) := vs_par3 hc hN hi hj hl hij hil hjl hx hy hz ha hw hs
end
/-- isinstance(n, x), n the handled exception -/
theorem is_e (i : Nat) {x n : Str} {c : Nat} {pp : Addr × Obj} {Dc C : Addr} {b : Bool} {p p1 p2 pos : Pos} (hp : pp ∈ X.pn) (hz : Zc (cv c) none pp.2) (hd : ∃ vs, pp.2.data = .fields vs) (hcv : cv c = .ref Dc) (E : ExcC X.K Dc) (hk : PySem.W.kitOne X.K (.ref Dc) (.ref C) = some b)
    (hm : X.mg "isinstance" = none) (hmx : X.mg x = some (.ref C)) (hg : Gl X "isinstance" := by rfl) (hN : X.N[i]? = some n := by rfl) (hv : X.env.scope.names.lookup n = some .local := by rfl) (hdn : (n == ("__debug__" : Str)) = false := by decide) (hcn : (n == ("__classdict__" : Str)) = false := by decide)
    (hgx : Gl X x := by rfl) (hdx : (x == ("__debug__" : Str)) = false := by decide) : VE X cv W (.Call (.Name "isinstance" p) [.Name n p1, .Name x p2] [] pos) (mIsE i pp.1 b) := ve_isE hp hz hd hcv E hk hg hm hN (.inl hv) hdn hcn hgx hmx hdx
end
end EV
set_option maxHeartbeats 400000
namespace EV
open PySem PySem.Spec PyProof.Rows L2
section
variable {X : Cx} {cv : Nat → Value} {W : WX}
theorem hot_of {j : Nat} {A : Around} (r : RoomG j A) (h : Option Value) : L2H.RoomH j (A.mark h) := by
  have q := r.room
  exact ⟨q.dp, q.un⟩
theorem ve_globS {x y : Str} {t : Tok} {pos : Pos} (hg : Gl X x) (hm : X.mg x = some (.str y t)) (hd : (x == ("__debug__" : Str)) = false := by decide) : VE X cv W (.Name x pos) (mC (.str y)) :=
  ve_c (pe_glob (v := .str y) hg hm ⟨_, rfl⟩ hd) fun _ _ => .str _
/-- tuple(x), list(x): of a list, a tuple -/
def gTuple : List D → Option Vl
  | [.list xs] => some (.d (.tuple xs))
  | [.tuple xs] => some (.d (.tuple xs))
  | _ => none
theorem cok_tuple : CallOk X (.type "tuple") gTuple := ⟨_, call_tuple_of, fun Z H us xs r Q h e k => by
  unfold gTuple at e
  split at e
  · cases e
    obtain ⟨u, rfl, a, vs, rfl, h1, h2⟩ := h.one
    exact ⟨a, vs, rfl, .inl ⟨.inl (.inl h1), fun l nl => k _ _ (Ext.new nl) (tup_or nl h2)⟩⟩
  · cases e
    obtain ⟨u, rfl, hx⟩ := h.one
    obtain ⟨a, vs, rfl, h1, h2⟩ := Rp.tuple hx
    exact ⟨a, vs, rfl, .inr ⟨h1.sq, k _ _ Ext.refl hx⟩⟩
  · cases e⟩
def gList : List D → Option Vl
  | [.list xs] => some (.n (.lst xs))
  | [.tuple xs] => some (.n (.lst xs))
  | _ => none
theorem cok_list : CallOk X (.type "list") gList := ⟨_, call_list_of, fun Z H us xs r Q h e k => by
  unfold gList at e
  split at e
  · cases e
    obtain ⟨u, rfl, a, vs, rfl, h1, h2⟩ := h.one
    exact ⟨a, vs, rfl, .inl (.inl (.inl h1)), fun l nl => k _ _ (Ext.new nl) ⟨l, _, rfl, nl, upd_same, _, rfl, h2.keep (Ext.new nl).kp⟩⟩
  · cases e
    obtain ⟨u, rfl, hx⟩ := h.one
    obtain ⟨a, vs, rfl, h1, h2⟩ := Rp.tuple hx
    exact ⟨a, vs, rfl, .inr h1.sq, fun l nl => k _ _ (Ext.new nl) ⟨l, _, rfl, nl, upd_same, _, rfl, h2.keep (Ext.new nl).kp⟩⟩
  · cases e⟩
end
/-! ### names of the built-ins -/
theorem bt_len : bootBuiltins "len" = some (.builtin "len") := by decide +kernel
theorem bt_sum : bootBuiltins "sum" = some (.builtin "sum") := by decide +kernel
theorem bt_int : bootBuiltins "int" = some (.type "int") := by decide +kernel
theorem bt_repr : bootBuiltins "repr" = some (.builtin "repr") := by decide +kernel
theorem bt_tuple : bootBuiltins "tuple" = some (.type "tuple") := by decide +kernel
theorem bt_list : bootBuiltins "list" = some (.type "list") := by decide +kernel
end EV
set_option maxHeartbeats 400000
namespace EV
open PySem PySem.Spec PyProof.Rows L2
/-! ### evaluation by first-order rules (for simp): what waits for a part's result is named -/
section
variable {α β : Type} {a : α} {ρ ρ1 ρ2 : Rho} {c i j n : Nat} {x y : D} {xs ys : List D} {v : Vl} {vs : List Vl}
@[simp] theorem oOf_some : oOf (some a) ρ = .ok a ρ := rfl
@[simp] theorem oOf_none : (oOf none ρ : Out α) = .st := rfl
/-! slots -/
def maySl : Option Sl → Bool
  | some .no => true
  | some (.d _) => true
  | some (.o .own _) => true
  | some (.e _) => true
  | _ => false
@[simp] theorem mayS_eq : mayS ρ i = maySl ρ[i]? := by
  unfold mayS maySl
  cases ρ[i]? with
  | none => rfl
  | some s =>
    cases s with
    | o m c => cases m <;> rfl
    | _ => rfl
@[simp] theorem maySl_no : maySl (some .no) = true := rfl
@[simp] theorem maySl_d : maySl (some (.d x)) = true := rfl
@[simp] theorem maySl_o {c : Co} : maySl (some (.o .own c)) = true := rfl
@[simp] theorem maySl_m {c : Co} : maySl (some (.o .mut c)) = false := rfl
@[simp] theorem maySl_e {a : Addr} : maySl (some (.e a)) = true := rfl
def slV (i : Nat) (ρ : Rho) : Option Sl → Out Vl
  | some (.d x) => .ok (.d x) ρ
  | some (.o _ _) => .ok (.s i) ρ
  | some (.scr _) => .ok (.s i) ρ
  | _ => .st
@[simp] theorem mVar_eq : mVar i ρ = slV i ρ ρ[i]? := by
  unfold mVar slV
  cases ρ[i]? with
  | none => rfl
  | some s => cases s <;> rfl
@[simp] theorem slV_d : slV i ρ (some (.d x)) = .ok (.d x) ρ := rfl
@[simp] theorem slV_o {m : Md} {c : Co} : slV i ρ (some (.o m c)) = .ok (.s i) ρ := rfl
@[simp] theorem slV_s {ns : List Int} : slV i ρ (some (.scr ns)) = .ok (.s i) ρ := rfl
@[simp] theorem mC_eq : mC x ρ = .ok (.d x) ρ := rfl
@[simp] theorem rd_d : rd ρ (.d x) = some x := rfl
@[simp] theorem rd_n {c : Co} : rd ρ (.n c) = c.toD := rfl
def rdSl : Option Sl → Option D
  | some (.d x) => some x
  | some (.o _ c) => c.toD
  | _ => none
@[simp] theorem rd_s : rd ρ (.s i) = rdSl ρ[i]? := by
  show (match ρ[i]? with
    | some (.d x) => some x
    | some (.o _ c) => c.toD
    | _ => none) = _
  unfold rdSl
  cases ρ[i]? with
  | none => rfl
  | some s => cases s <;> rfl
@[simp] theorem rdSl_d : rdSl (some (.d x)) = some x := rfl
@[simp] theorem rdSl_o {m : Md} {c : Co} : rdSl (some (.o m c)) = c.toD := rfl
@[simp] theorem toD_l : (Co.lst xs).toD = some (.list xs) := rfl
@[simp] theorem toD_d {xs : List (D × D)} : (Co.dct xs).toD = some (.dict xs) := rfl
def frzSl (i : Nat) (ρ : Rho) : Option Sl → Option (D × Rho)
  | some (.d x) => some (x, ρ)
  | some (.o .own (.lst xs)) => some (.list xs, ρ.set i (.d (.list xs)))
  | some (.o .own (.dct xs)) => some (.dict xs, ρ.set i (.d (.dict xs)))
  | _ => none
@[simp] theorem frz1_d : frz1 (.d x) ρ = some (x, ρ) := rfl
@[simp] theorem frz1_l : frz1 (.n (.lst xs)) ρ = some (.list xs, ρ) := rfl
@[simp] theorem frz1_c {xs : List (D × D)} : frz1 (.n (.dct xs)) ρ = some (.dict xs, ρ) := rfl
@[simp] theorem frz1_s : frz1 (.s i) ρ = frzSl i ρ ρ[i]? := by
  show (match ρ[i]? with
    | some (.d x) => some (x, ρ)
    | some (.o .own c) => c.toD.map fun x => (x, ρ.set i (.d x))
    | _ => none) = _
  unfold frzSl
  cases ρ[i]? with
  | none => rfl
  | some s =>
    cases s with
    | o m c => cases m <;> cases c <;> rfl
    | _ => rfl
@[simp] theorem frzSl_d : frzSl i ρ (some (.d x)) = some (x, ρ) := rfl
@[simp] theorem frzSl_o : frzSl i ρ (some (.o .own (.lst xs))) = some (.list xs, ρ.set i (.d (.list xs))) := rfl
@[simp] theorem frzSl_c {xs : List (D × D)} : frzSl i ρ (some (.o .own (.dct xs))) = some (.dict xs, ρ.set i (.d (.dict xs))) := rfl
def fK2 (x : D) : Option (List D × Rho) → Option (List D × Rho)
  | some (xs, ρ) => some (x :: xs, ρ)
  | none => none
def fK (vs : List Vl) : Option (D × Rho) → Option (List D × Rho)
  | some (x, ρ) => fK2 x (frzs vs ρ)
  | none => none
@[simp] theorem frzs_nil : frzs [] ρ = some ([], ρ) := rfl
@[simp] theorem frzs_cons : frzs (v :: vs) ρ = fK vs (frz1 v ρ) := by
  show (frz1 v ρ).bind _ = _
  unfold fK
  cases frz1 v ρ with
  | none => rfl
  | some p =>
    obtain ⟨x, ρ1⟩ := p
    show (frzs vs ρ1).map _ = fK2 x (frzs vs ρ1)
    cases frzs vs ρ1 <;> rfl
@[simp] theorem fK_some : fK vs (some (x, ρ)) = fK2 x (frzs vs ρ) := rfl
@[simp] theorem fK2_some : fK2 x (some (xs, ρ)) = some (x :: xs, ρ) := rfl
def stK (i : Nat) : Option (D × Rho) → Option Rho
  | some (x, ρ) => if maySl ρ[i]? = true then some (ρ.set i (.d x)) else none
  | none => none
@[simp] theorem stK_some : stK i (some (x, ρ)) = if maySl ρ[i]? = true then some (ρ.set i (.d x)) else none := rfl
@[simp] theorem storeV_d : storeV i (.d x) ρ = if maySl ρ[i]? = true then some (ρ.set i (.d x)) else none := by rw [← mayS_eq]; rfl
@[simp] theorem storeV_n {c : Co} : storeV i (.n c) ρ = if maySl ρ[i]? = true then some (ρ.set i (.o .own c)) else none := by rw [← mayS_eq]; rfl
@[simp] theorem storeV_s : storeV i (.s j) ρ = if maySl ρ[i]? = true then stK i (frz1 (.s j) ρ) else none := by
  unfold storeV
  rw [mayS_eq]
  split
  · dsimp only
    cases frz1 (.s j) ρ with
    | none => rfl
    | some p =>
      obtain ⟨x, ρ1⟩ := p
      show (if mayS ρ1 i = true then _ else _) = _
      rw [mayS_eq]
      rfl
  · rfl
@[simp] theorem rdAll_nil : rdAll ρ [] = some [] := rfl
def raK2 (x : D) : Option (List D) → Option (List D)
  | some xs => some (x :: xs)
  | none => none
def raK (vs : List Vl) (ρ : Rho) : Option D → Option (List D)
  | some x => raK2 x (rdAll ρ vs)
  | none => none
@[simp] theorem rdAll_cons : rdAll ρ (v :: vs) = raK vs ρ (rd ρ v) := by
  show (rd ρ v).bind _ = _
  unfold raK
  cases rd ρ v with
  | none => rfl
  | some x =>
    show (rdAll ρ vs).map _ = raK2 x (rdAll ρ vs)
    cases rdAll ρ vs <;> rfl
@[simp] theorem raK_some : raK vs ρ (some x) = raK2 x (rdAll ρ vs) := rfl
@[simp] theorem raK2_some : raK2 x (some xs) = some (x :: xs) := rfl
/-! operations -/
section
variable {g g' : D → D → Option Vl} {ma mb mc : Rho → Out Vl}
def o2 (g : D → D → Option Vl) : Option D → Option D → Option Vl
  | some x, some y => g x y
  | _, _ => none
@[simp] theorem o2_some : o2 g (some x) (some y) = g x y := rfl
def bK2 (g : D → D → Option Vl) (v : Vl) : Out Vl → Out Vl
  | .ok w ρ => oOf (o2 g (rd ρ v) (rd ρ w)) ρ
  | .ex c ρ => .ex c ρ
  | .st => .st
def bK (g : D → D → Option Vl) (mb : Rho → Out Vl) : Out Vl → Out Vl
  | .ok v ρ => bK2 g v (mb ρ)
  | .ex c ρ => .ex c ρ
  | .st => .st
@[simp] theorem bK_ok : bK g mb (.ok v ρ) = bK2 g v (mb ρ) := rfl
@[simp] theorem bK_ex : bK g mb (.ex c ρ) = .ex c ρ := rfl
@[simp] theorem bK2_ok {w : Vl} : bK2 g v (.ok w ρ) = oOf (o2 g (rd ρ v) (rd ρ w)) ρ := rfl
@[simp] theorem bK2_ex : bK2 g v (.ex c ρ) = .ex c ρ := rfl
theorem o2_eq {a b : Option D} : (a.bind fun dx => b.bind fun dy => g dx dy) = o2 g a b := by
  cases a <;> cases b <;> rfl
@[simp] theorem mBin_eq : mBin g ma mb ρ = bK g mb (ma ρ) := by
  unfold mBin bK
  cases ma ρ with
  | ok v ρ1 =>
    show (mb ρ1).bind _ = bK2 g v (mb ρ1)
    cases mb ρ1 with
    | ok w ρ2 =>
      show oOf _ ρ2 = oOf _ ρ2
      rw [o2_eq]
    | _ => rfl
  | _ => rfl
def uK (g : D → Option Vl) : Out Vl → Out Vl
  | .ok v ρ => oOf ((rd ρ v).bind g) ρ
  | .ex c ρ => .ex c ρ
  | .st => .st
@[simp] theorem uK_ok {g : D → Option Vl} : uK g (.ok v ρ) = oOf ((rd ρ v).bind g) ρ := rfl
@[simp] theorem uK_ex {g : D → Option Vl} : uK g (.ex c ρ) = .ex c ρ := rfl
@[simp] theorem mUn_eq {g : D → Option Vl} : mUn g ma ρ = uK g (ma ρ) := by
  unfold mUn uK
  cases ma ρ <;> rfl
def tK1 : Out Vl → Out Bool
  | .ok (.d (.bool b)) ρ => .ok b ρ
  | .ex c ρ => .ex c ρ
  | _ => .st
@[simp] theorem tK1_ok {b : Bool} : tK1 (.ok (.d (.bool b)) ρ) = .ok b ρ := rfl
@[simp] theorem tK1_ex : tK1 (.ex c ρ) = .ex c ρ := rfl
@[simp] theorem mTst_eq : mTst ma ρ = tK1 (ma ρ) := by
  unfold mTst tK1
  cases ma ρ with
  | ok v ρ1 =>
    cases v with
    | d x => cases x <;> rfl
    | _ => rfl
  | _ => rfl
def trK : Out Vl → Out Bool
  | .ok v ρ => oOf ((rd ρ v).bind truD) ρ
  | .ex c ρ => .ex c ρ
  | .st => .st
@[simp] theorem trK_ok : trK (.ok v ρ) = oOf ((rd ρ v).bind truD) ρ := rfl
@[simp] theorem mTru_eq : mTru ma ρ = trK (ma ρ) := by
  unfold mTru trK
  cases ma ρ <;> rfl
def iK {α : Type} (a b : Rho → Out α) : Out Bool → Out α
  | .ok k ρ => if k = true then a ρ else b ρ
  | .ex c ρ => .ex c ρ
  | .st => .st
@[simp] theorem iK_ok {a b : Rho → Out α} {k : Bool} : iK a b (.ok k ρ) = if k = true then a ρ else b ρ := rfl
@[simp] theorem iK_ex {a b : Rho → Out α} : iK a b (.ex c ρ) = .ex c ρ := rfl
@[simp] theorem mIf_eq {c : Rho → Out Bool} {a b : Rho → Out α} : mIf c a b ρ = iK a b (c ρ) := by
  unfold mIf iK
  cases c ρ <;> rfl
@[simp] theorem mB_eq {b : Bool} : mB b ρ = .ok b ρ := rfl
def nK : Out Bool → Out Bool
  | .ok k ρ => .ok (!k) ρ
  | .ex c ρ => .ex c ρ
  | .st => .st
@[simp] theorem nK_ok {k : Bool} : nK (.ok k ρ) = .ok (!k) ρ := rfl
@[simp] theorem mNotB_eq {c : Rho → Out Bool} : mNotB c ρ = nK (c ρ) := by
  unfold mNotB nK
  cases c ρ <;> rfl
def kpK (a b : Rho → Out Vl) (q : Bool) (ρ : Rho) (v : Vl) : Option Bool → Out Vl
  | some k => if k = q then a ρ else mKeep v ρ
  | none => .st
def avK (q : Bool) (mb : Rho → Out Vl) : Out Vl → Out Vl
  | .ok v ρ => kpK mb mb q ρ v ((rd ρ v).bind truD)
  | .ex c ρ => .ex c ρ
  | .st => .st
@[simp] theorem kpK_some {q k : Bool} : kpK ma mb q ρ v (some k) = if k = q then ma ρ else mKeep v ρ := rfl
@[simp] theorem avK_ok {q : Bool} : avK q mb (.ok v ρ) = kpK mb mb q ρ v ((rd ρ v).bind truD) := rfl
@[simp] theorem avK_ex {q : Bool} : avK q mb (.ex c ρ) = .ex c ρ := rfl
@[simp] theorem mAndV_eq : mAndV ma mb ρ = avK true mb (ma ρ) := by
  unfold mAndV avK
  cases ma ρ with
  | ok v ρ1 =>
    show (oOf ((rd ρ1 v).bind truD) ρ1 : Out Bool).bind _ = kpK mb mb true ρ1 v ((rd ρ1 v).bind truD)
    cases (rd ρ1 v).bind truD <;> rfl
  | _ => rfl
@[simp] theorem mOrV_eq : mOrV ma mb ρ = avK false mb (ma ρ) := by
  unfold mOrV avK
  cases ma ρ with
  | ok v ρ1 =>
    show (oOf ((rd ρ1 v).bind truD) ρ1 : Out Bool).bind _ = kpK mb mb false ρ1 v ((rd ρ1 v).bind truD)
    cases (rd ρ1 v).bind truD with
    | none => rfl
    | some k => cases k <;> rfl
  | _ => rfl
def nvK : Out Vl → Out Vl
  | .ok v ρ => uNot ρ ((rd ρ v).bind truD)
  | .ex c ρ => .ex c ρ
  | .st => .st
where uNot (ρ : Rho) : Option Bool → Out Vl
  | some k => .ok (.d (.bool (!k))) ρ
  | none => .st
@[simp] theorem nvK_ok : nvK (.ok v ρ) = nvK.uNot ρ ((rd ρ v).bind truD) := rfl
@[simp] theorem nvK_s {k : Bool} : nvK.uNot ρ (some k) = .ok (.d (.bool (!k))) ρ := rfl
@[simp] theorem mNotV_eq : mNotV ma ρ = nvK (ma ρ) := by
  unfold mNotV nvK
  cases ma ρ with
  | ok v ρ1 =>
    show (oOf ((rd ρ1 v).bind truD) ρ1 : Out Bool).bind _ = nvK.uNot ρ1 ((rd ρ1 v).bind truD)
    cases (rd ρ1 v).bind truD <;> rfl
  | _ => rfl
@[simp] theorem mKeep_d : mKeep (.d x) ρ = .ok (.d x) ρ := rfl
@[simp] theorem mKeep_s : mKeep (.s i) ρ = .ok (.s i) ρ := rfl
@[simp] theorem truD_b {b : Bool} : truD (.bool b) = some b := rfl
@[simp] theorem truD_i {i : Int} : truD (.int i) = some (i != 0) := rfl
@[simp] theorem truD_n : truD .none = some false := rfl
@[simp] theorem truD_l : truD (.list xs) = some (!xs.isEmpty) := rfl
@[simp] theorem truD_t : truD (.tuple xs) = some (!xs.isEmpty) := rfl
def chK4 (g' : D → D → Option Vl) (w : Vl) : Out Vl → Out Vl
  | .ok z ρ => oOf (o2 g' (rd ρ w) (rd ρ z)) ρ
  | .ex c ρ => .ex c ρ
  | .st => .st
def chK3 (g' : D → D → Option Vl) (mc : Rho → Out Vl) (w : Vl) (ρ : Rho) : Option Vl → Out Vl
  | some (.d (.bool k)) => if k = true then chK4 g' w (mc ρ) else .ok (.d (.bool false)) ρ
  | _ => .st
def chK2 (g g' : D → D → Option Vl) (mc : Rho → Out Vl) (v : Vl) : Out Vl → Out Vl
  | .ok w ρ => chK3 g' mc w ρ (o2 g (rd ρ v) (rd ρ w))
  | .ex c ρ => .ex c ρ
  | .st => .st
def chK (g g' : D → D → Option Vl) (mb mc : Rho → Out Vl) : Out Vl → Out Vl
  | .ok v ρ => chK2 g g' mc v (mb ρ)
  | .ex c ρ => .ex c ρ
  | .st => .st
@[simp] theorem chK_ok : chK g g' mb mc (.ok v ρ) = chK2 g g' mc v (mb ρ) := rfl
@[simp] theorem chK2_ok {w : Vl} : chK2 g g' mc v (.ok w ρ) = chK3 g' mc w ρ (o2 g (rd ρ v) (rd ρ w)) := rfl
@[simp] theorem chK3_ok {k : Bool} : chK3 g' mc v ρ (some (.d (.bool k))) = if k = true then chK4 g' v (mc ρ) else .ok (.d (.bool false)) ρ := rfl
@[simp] theorem chK4_ok {w : Vl} : chK4 g' v (.ok w ρ) = oOf (o2 g' (rd ρ v) (rd ρ w)) ρ := rfl
@[simp] theorem mChain_eq : mChain g g' ma mb mc ρ = chK g g' mb mc (ma ρ) := by
  unfold mChain chK
  cases ma ρ with
  | ok v ρ1 =>
    show (mb ρ1).bind _ = chK2 g g' mc v (mb ρ1)
    cases mb ρ1 with
    | ok w ρ2 =>
      show (oOf (asB _) ρ2 : Out Bool).bind _ = chK3 g' mc w ρ2 (o2 g (rd ρ2 v) (rd ρ2 w))
      rw [o2_eq]
      cases o2 g (rd ρ2 v) (rd ρ2 w) with
      | none => rfl
      | some r =>
        cases r with
        | d r =>
          cases r with
          | bool k =>
            cases k with
            | true =>
              show (mc ρ2).bind _ = chK4 g' w (mc ρ2)
              cases mc ρ2 with
              | ok z ρ3 =>
                show oOf _ ρ3 = oOf _ ρ3
                rw [o2_eq]
              | _ => rfl
            | false => rfl
          | _ => rfl
        | _ => rfl
    | _ => rfl
  | _ => rfl
end
/-! lists of arguments, displays, calls -/
section
variable {ma : Rho → Out Vl} {mr m : Rho → Out (List Vl)} {f : Rho → Out Vl}
def cK2 (v : Vl) : Out (List Vl) → Out (List Vl)
  | .ok vs ρ => .ok (v :: vs) ρ
  | .ex c ρ => .ex c ρ
  | .st => .st
def cK (mr : Rho → Out (List Vl)) : Out Vl → Out (List Vl)
  | .ok v ρ => cK2 v (mr ρ)
  | .ex c ρ => .ex c ρ
  | .st => .st
@[simp] theorem cK_ok : cK mr (.ok v ρ) = cK2 v (mr ρ) := rfl
@[simp] theorem cK_ex : cK mr (.ex c ρ) = .ex c ρ := rfl
@[simp] theorem cK2_ok : cK2 v (.ok vs ρ) = .ok (v :: vs) ρ := rfl
@[simp] theorem cK2_ex : cK2 v (.ex c ρ) = .ex c ρ := rfl
@[simp] theorem mNil_eq : mNil ρ = .ok [] ρ := rfl
@[simp] theorem mCons_eq : mCons ma mr ρ = cK mr (ma ρ) := by
  unfold mCons cK
  cases ma ρ with
  | ok v ρ1 =>
    show (mr ρ1).bind _ = cK2 v (mr ρ1)
    cases mr ρ1 <;> rfl
  | _ => rfl
def tpK2 : Option (List D × Rho) → Out Vl
  | some (xs, ρ) => if xs.length ≤ 1000 then .ok (.d (.tuple xs)) ρ else .st
  | none => .st
def tpK : Out (List Vl) → Out Vl
  | .ok vs ρ => tpK2 (frzs vs ρ)
  | .ex c ρ => .ex c ρ
  | .st => .st
def lsK2 : Option (List D × Rho) → Out Vl
  | some (xs, ρ) => if xs.length ≤ 1000 then .ok (.n (.lst xs)) ρ else .st
  | none => .st
def lsK : Out (List Vl) → Out Vl
  | .ok vs ρ => lsK2 (frzs vs ρ)
  | .ex c ρ => .ex c ρ
  | .st => .st
@[simp] theorem tpK_ok : tpK (.ok vs ρ) = tpK2 (frzs vs ρ) := rfl
@[simp] theorem tpK_ex : tpK (.ex c ρ) = .ex c ρ := rfl
@[simp] theorem tpK2_some : tpK2 (some (xs, ρ)) = if xs.length ≤ 1000 then .ok (.d (.tuple xs)) ρ else .st := rfl
@[simp] theorem lsK_ok : lsK (.ok vs ρ) = lsK2 (frzs vs ρ) := rfl
@[simp] theorem lsK_ex : lsK (.ex c ρ) = .ex c ρ := rfl
@[simp] theorem lsK2_some : lsK2 (some (xs, ρ)) = if xs.length ≤ 1000 then .ok (.n (.lst xs)) ρ else .st := rfl
@[simp] theorem mTup_eq : mTup m ρ = tpK (m ρ) := by
  unfold mTup tpK
  cases m ρ with
  | ok vs ρ1 =>
    show (oOf (frzs vs ρ1) ρ1 : Out _).bind _ = tpK2 (frzs vs ρ1)
    cases frzs vs ρ1 <;> rfl
  | _ => rfl
@[simp] theorem mLst_eq : mLst m ρ = lsK (m ρ) := by
  unfold mLst lsK
  cases m ρ with
  | ok vs ρ1 =>
    show (oOf (frzs vs ρ1) ρ1 : Out _).bind _ = lsK2 (frzs vs ρ1)
    cases frzs vs ρ1 <;> rfl
  | _ => rfl
def o1 (g : List D → Option Vl) : Option (List D) → Option Vl
  | some xs => g xs
  | none => none
@[simp] theorem o1_some {g : List D → Option Vl} : o1 g (some xs) = g xs := rfl
def caK (g : List D → Option Vl) : Out (List Vl) → Out Vl
  | .ok vs ρ => oOf (o1 g (rdAll ρ vs)) ρ
  | .ex c ρ => .ex c ρ
  | .st => .st
@[simp] theorem caK_ok {g : List D → Option Vl} : caK g (.ok vs ρ) = oOf (o1 g (rdAll ρ vs)) ρ := rfl
@[simp] theorem caK_ex {g : List D → Option Vl} : caK g (.ex c ρ) = .ex c ρ := rfl
@[simp] theorem mCall_eq {g : List D → Option Vl} : mCall g m ρ = caK g (m ρ) := by
  unfold mCall caK
  cases m ρ with
  | ok vs ρ1 =>
    show oOf ((rdAll ρ1 vs).bind g) ρ1 = oOf (o1 g (rdAll ρ1 vs)) ρ1
    cases rdAll ρ1 vs <;> rfl
  | _ => rfl
def cdK3 (ρ : Rho) : Out Vl → Out Vl
  | .ok (.d x) _ => .ok (.d x) ρ
  | .ok (.n c) _ => .ok (.n c) ρ
  | .ex c _ => .ex c ρ
  | _ => .st
def cdK2 (n : Nat) (f : Rho → Out Vl) : Option (List D × Rho) → Out Vl
  | some (xs, ρ) => if xs.length = n then cdK3 ρ (f (xs.map .d)) else .st
  | none => .st
def cdK (n : Nat) (f : Rho → Out Vl) : Out (List Vl) → Out Vl
  | .ok vs ρ => cdK2 n f (frzs vs ρ)
  | .ex c ρ => .ex c ρ
  | .st => .st
@[simp] theorem cdK_ok : cdK n f (.ok vs ρ) = cdK2 n f (frzs vs ρ) := rfl
@[simp] theorem cdK_ex : cdK n f (.ex c ρ) = .ex c ρ := rfl
@[simp] theorem cdK2_some : cdK2 n f (some (xs, ρ)) = if xs.length = n then cdK3 ρ (f (xs.map .d)) else .st := rfl
@[simp] theorem cdK3_d : cdK3 ρ (.ok (.d x) ρ1) = .ok (.d x) ρ := rfl
@[simp] theorem cdK3_n {c : Co} : cdK3 ρ (.ok (.n c) ρ1) = .ok (.n c) ρ := rfl
@[simp] theorem cdK3_ex : cdK3 ρ (.ex c ρ1) = .ex c ρ := rfl
@[simp] theorem mCallD_eq : mCallD n f m ρ = cdK n f (m ρ) := by
  unfold mCallD cdK
  cases m ρ with
  | ok vs ρ1 =>
    show (oOf (frzs vs ρ1) ρ1 : Out _).bind _ = cdK2 n f (frzs vs ρ1)
    cases frzs vs ρ1 with
    | none => rfl
    | some p =>
      obtain ⟨xs, ρ2⟩ := p
      show (if xs.length = n then outOf (f (xs.map .d)) (fun _ => some ρ2) else .st) = if xs.length = n then cdK3 ρ2 (f (xs.map .d)) else .st
      cases f (xs.map .d) with
      | ok v ρ3 => cases v <;> rfl
      | _ => rfl
  | _ => rfl
/-- the lent slot -/
def lentSl : Option Sl → Option Sl
  | some (.o .own c) => some (.o .mut c)
  | some (.o .mut c) => some (.o .mut c)
  | some (.scr ns) => some (.scr ns)
  | _ => none
@[simp] theorem lent_eq : lent ρ i = lentSl ρ[i]? := by
  unfold lent lentSl
  cases ρ[i]? with
  | none => rfl
  | some s =>
    cases s with
    | o m c => cases m <;> rfl
    | _ => rfl
@[simp] theorem lentSl_o {c : Co} : lentSl (some (.o .own c)) = some (.o .mut c) := rfl
@[simp] theorem lentSl_m {c : Co} : lentSl (some (.o .mut c)) = some (.o .mut c) := rfl
@[simp] theorem lentSl_s {ns : List Int} : lentSl (some (.scr ns)) = some (.scr ns) := rfl
def givSl (ρ : Rho) (i : Nat) : Option Sl → Option Sl → Option Rho
  | some (.o m _), some (.o .mut c) => some (ρ.set i (.o m c))
  | some (.scr _), _ => some ρ
  | _, _ => none
@[simp] theorem given_eq {b : Option Sl} : given ρ i b = givSl ρ i ρ[i]? b := by
  unfold given givSl
  cases ρ[i]? with
  | none => rfl
  | some s =>
    cases s with
    | o m c =>
      cases b with
      | none => rfl
      | some t =>
        cases t with
        | o m2 c2 => cases m2 <;> rfl
        | _ => rfl
    | _ => rfl
@[simp] theorem givSl_o {m : Md} {c c' : Co} : givSl ρ i (some (.o m c)) (some (.o .mut c')) = some (ρ.set i (.o m c')) := rfl
@[simp] theorem givSl_s {ns : List Int} {b : Option Sl} : givSl ρ i (some (.scr ns)) b = some ρ := rfl
def clK5 (v : Vl) : Option Rho → Out Vl
  | some ρ => .ok v ρ
  | none => .st
def clK6 (c : Nat) : Option Rho → Out Vl
  | some ρ => .ex c ρ
  | none => .st
@[simp] theorem clK5_some : clK5 v (some ρ) = .ok v ρ := rfl
@[simp] theorem clK6_some : clK6 c (some ρ) = .ex c ρ := rfl
def clK4 (p i : Nat) (ρ : Rho) : Out Vl → Out Vl
  | .ok (.d x) b => clK5 (.d x) (given ρ i b[p]?)
  | .ok (.n c) b => clK5 (.n c) (given ρ i b[p]?)
  | .ex c b => clK6 c (given ρ i b[p]?)
  | _ => .st
@[simp] theorem clK4_d {p : Nat} : clK4 p i ρ (.ok (.d x) ρ1) = clK5 (.d x) (given ρ i ρ1[p]?) := rfl
@[simp] theorem clK4_n {p : Nat} {c : Co} : clK4 p i ρ (.ok (.n c) ρ1) = clK5 (.n c) (given ρ i ρ1[p]?) := rfl
@[simp] theorem clK4_ex {p : Nat} : clK4 p i ρ (.ex c ρ1) = clK6 c (given ρ i ρ1[p]?) := rfl
def clK3 (n p i : Nat) (f : Rho → Out Vl) (ρ : Rho) (xs : List D) : Option Sl → Out Vl
  | some e => if xs.length = n then clK4 p i ρ (f ((xs.map .d).set p e)) else .st
  | none => .st
@[simp] theorem clK3_some {p : Nat} {e : Sl} : clK3 n p i f ρ xs (some e) = if xs.length = n then clK4 p i ρ (f ((xs.map .d).set p e)) else .st := rfl
def clK2 (n p i : Nat) (f : Rho → Out Vl) : Option (List D × Rho) → Out Vl
  | some (xs, ρ) => clK3 n p i f ρ xs (lent ρ i)
  | none => .st
@[simp] theorem clK2_some {p : Nat} : clK2 n p i f (some (xs, ρ)) = clK3 n p i f ρ xs (lent ρ i) := rfl
def clK1 (n p : Nat) (f : Rho → Out Vl) (vs : List Vl) (ρ : Rho) : Option Vl → Out Vl
  | some (.s i) => clK2 n p i f (frzs (vs.set p (.d .none)) ρ)
  | _ => .st
@[simp] theorem clK1_s {p : Nat} : clK1 n p f vs ρ (some (.s i)) = clK2 n p i f (frzs (vs.set p (.d .none)) ρ) := rfl
def clK (n p : Nat) (f : Rho → Out Vl) : Out (List Vl) → Out Vl
  | .ok vs ρ => clK1 n p f vs ρ vs[p]?
  | .ex c ρ => .ex c ρ
  | .st => .st
@[simp] theorem clK_ok {p : Nat} : clK n p f (.ok vs ρ) = clK1 n p f vs ρ vs[p]? := rfl
@[simp] theorem mCallL_eq {p : Nat} : mCallL n p f m ρ = clK n p f (m ρ) := by
  unfold mCallL clK
  cases m ρ with
  | ok vs ρ1 =>
    show (match vs[p]? with
      | some (.s i) => _
      | _ => .st) = clK1 n p f vs ρ1 vs[p]?
    cases vs[p]? with
    | none => rfl
    | some v =>
      cases v with
      | s i =>
        show (oOf (frzs (vs.set p (.d .none)) ρ1) ρ1 : Out _).bind _ = clK2 n p i f (frzs (vs.set p (.d .none)) ρ1)
        cases frzs (vs.set p (.d .none)) ρ1 with
        | none => rfl
        | some q =>
          obtain ⟨xs, ρ2⟩ := q
          show (if xs.length = n then _ else _) = clK3 n p i f ρ2 xs (lent ρ2 i)
          cases lent ρ2 i with
          | none => dsimp only [clK3]; split <;> rfl
          | some e =>
            dsimp only [clK3]
            cases f ((xs.map .d).set p e) with
            | ok v ρ3 => cases v <;> rfl
            | _ => rfl
      | _ => rfl
  | _ => rfl
end
/-! statements -/
section
variable {m1 m2 mb : Rho → SR} {m : Rho → Out Vl}
def sK (m : Rho → SR) : SR → SR
  | .nx ρ => m ρ
  | r => r
@[simp] theorem sK_nx : sK m1 (.nx ρ) = m1 ρ := rfl
@[simp] theorem sK_bk : sK m1 (.bk ρ) = .bk ρ := rfl
@[simp] theorem sK_ct : sK m1 (.ct ρ) = .ct ρ := rfl
@[simp] theorem sK_rt : sK m1 (.rt v ρ) = .rt v ρ := rfl
@[simp] theorem sK_ex : sK m1 (.ex c ρ) = .ex c ρ := rfl
@[simp] theorem mThen_eq : mThen m1 m2 ρ = sK m2 (m1 ρ) := by
  unfold mThen sK
  cases m1 ρ <;> rfl
def opS : Option Rho → SR
  | some ρ => .nx ρ
  | none => .st
@[simp] theorem opS_some : opS (some ρ) = .nx ρ := rfl
def seK (i : Nat) : Out Vl → SR
  | .ok v ρ => opS (storeV i v ρ)
  | .ex c ρ => .ex c ρ
  | .st => .st
@[simp] theorem seK_ok : seK i (.ok v ρ) = opS (storeV i v ρ) := rfl
@[simp] theorem seK_ex : seK i (.ex c ρ) = .ex c ρ := rfl
@[simp] theorem mSet_eq : mSet i m ρ = seK i (m ρ) := by
  unfold mSet seK
  cases m ρ with
  | ok v ρ1 =>
    show (match storeV i v ρ1 with
      | some ρ2 => SR.nx ρ2
      | none => .st) = opS (storeV i v ρ1)
    cases storeV i v ρ1 <;> rfl
  | _ => rfl
def rtK : Out Vl → SR
  | .ok v ρ => .rt v ρ
  | .ex c ρ => .ex c ρ
  | .st => .st
@[simp] theorem rtK_ok : rtK (.ok v ρ) = .rt v ρ := rfl
@[simp] theorem rtK_ex : rtK (.ex c ρ) = .ex c ρ := rfl
@[simp] theorem mRet_eq : mRet m ρ = rtK (m ρ) := by
  unfold mRet rtK
  cases m ρ <;> rfl
def xpK : Out Vl → SR
  | .ok _ ρ => .nx ρ
  | .ex c ρ => .ex c ρ
  | .st => .st
@[simp] theorem xpK_ok : xpK (.ok v ρ) = .nx ρ := rfl
@[simp] theorem xpK_ex : xpK (.ex c ρ) = .ex c ρ := rfl
@[simp] theorem mExpr_eq : mExpr m ρ = xpK (m ρ) := by
  unfold mExpr xpK
  cases m ρ <;> rfl
def ifK (a b : Rho → SR) : Out Bool → SR
  | .ok k ρ => if k = true then a ρ else b ρ
  | .ex c ρ => .ex c ρ
  | .st => .st
@[simp] theorem ifK_ok {k : Bool} : ifK m1 m2 (.ok k ρ) = if k = true then m1 ρ else m2 ρ := rfl
@[simp] theorem ifK_ex : ifK m1 m2 (.ex c ρ) = .ex c ρ := rfl
@[simp] theorem mIfS_eq {c : Rho → Out Bool} : mIfS c m1 m2 ρ = ifK m1 m2 (c ρ) := by
  unfold mIfS ifK
  cases c ρ <;> rfl
@[simp] theorem mNx_eq : mNx ρ = .nx ρ := rfl
@[simp] theorem mRetN_eq : mRetN ρ = .rt (.d .none) ρ := rfl
@[simp] theorem mBrk_eq : mBrk ρ = .bk ρ := rfl
@[simp] theorem mCnt_eq : mCnt ρ = .ct ρ := rfl
@[simp] theorem mPass_eq : mPass ρ = .nx ρ := rfl
@[simp] theorem mRaise_eq : mRaise c ρ = .ex c ρ := rfl
def auK3 (i : Nat) (ρ : Rho) : Option Vl → SR
  | some (.d z) => if maySl ρ[i]? = true then .nx (ρ.set i (.d z)) else .st
  | _ => .st
@[simp] theorem auK3_d : auK3 i ρ (some (.d x)) = if maySl ρ[i]? = true then .nx (ρ.set i (.d x)) else .st := rfl
def auK2 (i : Nat) (g : D → D → Option Vl) (x : D) : Out Vl → SR
  | .ok v ρ => auK3 i ρ (o2 g (some x) (rd ρ v))
  | .ex c ρ => .ex c ρ
  | .st => .st
@[simp] theorem auK2_ok {g : D → D → Option Vl} : auK2 i g x (.ok v ρ) = auK3 i ρ (o2 g (some x) (rd ρ v)) := rfl
@[simp] theorem auK2_ex {g : D → D → Option Vl} : auK2 i g x (.ex c ρ) = .ex c ρ := rfl
def auK (i : Nat) (g : D → D → Option Vl) (m : Rho → Out Vl) (ρ : Rho) : Option Sl → SR
  | some (.d x) => auK2 i g x (m ρ)
  | _ => .st
@[simp] theorem auK_d {g : D → D → Option Vl} : auK i g m ρ (some (.d x)) = auK2 i g x (m ρ) := rfl
@[simp] theorem mAug_eq {g : D → D → Option Vl} : mAug i g m ρ = auK i g m ρ ρ[i]? := by
  unfold mAug auK
  cases ρ[i]? with
  | none => rfl
  | some s =>
    cases s with
    | d x =>
      show (m ρ).toS _ = auK2 i g x (m ρ)
      cases m ρ with
      | ok v ρ1 =>
        show (match (rd ρ1 v).bind fun y => g x y with
          | some (.d z) => if mayS ρ1 i = true then SR.nx (ρ1.set i (.d z)) else .st
          | _ => .st) = auK3 i ρ1 (o2 g (some x) (rd ρ1 v))
        rw [mayS_eq]
        cases rd ρ1 v with
        | none => rfl
        | some y =>
          show (match g x y with
            | some (.d z) => if maySl ρ1[i]? = true then SR.nx (ρ1.set i (.d z)) else .st
            | _ => .st) = auK3 i ρ1 (g x y)
          cases g x y with
          | none => rfl
          | some r => cases r <;> rfl
      | _ => rfl
    | _ => rfl
def asK2 (b : D → Rho → Option Rho) : Option (D × Rho) → SR
  | some (x, ρ) => opS (b x ρ)
  | none => .st
@[simp] theorem asK2_some {b : D → Rho → Option Rho} : asK2 b (some (x, ρ)) = opS (b x ρ) := rfl
def asK (b : D → Rho → Option Rho) : Out Vl → SR
  | .ok v ρ => asK2 b (frz1 v ρ)
  | .ex c ρ => .ex c ρ
  | .st => .st
@[simp] theorem asK_ok {b : D → Rho → Option Rho} : asK b (.ok v ρ) = asK2 b (frz1 v ρ) := rfl
@[simp] theorem asK_ex {b : D → Rho → Option Rho} : asK b (.ex c ρ) = .ex c ρ := rfl
@[simp] theorem mAsg_eq {b : D → Rho → Option Rho} : mAsg m b ρ = asK b (m ρ) := by
  unfold mAsg asK
  cases m ρ with
  | ok v ρ1 =>
    show (match frz1 v ρ1 with
      | some (x, ρ2) => (match b x ρ2 with
        | some ρ3 => SR.nx ρ3
        | none => .st)
      | none => .st) = asK2 b (frz1 v ρ1)
    cases frz1 v ρ1 with
    | none => rfl
    | some p =>
      obtain ⟨x, ρ2⟩ := p
      show (match b x ρ2 with
        | some ρ3 => SR.nx ρ3
        | none => .st) = opS (b x ρ2)
      cases b x ρ2 <;> rfl
  | _ => rfl
@[simp] theorem bName_eq : bName i x ρ = if maySl ρ[i]? = true then some (ρ.set i (.d x)) else none := by rw [← mayS_eq]; rfl
@[simp] theorem bNil_eq : bNil [] ρ = some ρ := rfl
def bcK (bs : List D → Rho → Option Rho) (xs : List D) : Option Rho → Option Rho
  | some ρ => bs xs ρ
  | none => none
@[simp] theorem bcK_some {bs : List D → Rho → Option Rho} : bcK bs xs (some ρ) = bs xs ρ := rfl
@[simp] theorem bCons_eq {b : D → Rho → Option Rho} {bs : List D → Rho → Option Rho} : bCons b bs (x :: xs) ρ = bcK bs xs (b x ρ) := by
  show (b x ρ).bind _ = _
  cases b x ρ <;> rfl
@[simp] theorem bTup_eq {n : Nat} {bs : List D → Rho → Option Rho} : bTup n bs (.tuple xs) ρ = if xs.length = n then bs xs ρ else none := rfl
section
variable {ml : Rho → Out (List Vl)} {l : Nat}
def p2K2 (i j : Nat) : Option (List D × Rho) → SR
  | some ([x, y], ρ) => opS (bcK (bCons (bName j) bNil) [y] (bName i x ρ))
  | _ => .st
@[simp] theorem p2K2_some : p2K2 i j (some ([x, y], ρ)) = opS (bcK (bCons (bName j) bNil) [y] (bName i x ρ)) := rfl
def p2K (i j : Nat) : Out (List Vl) → SR
  | .ok vs ρ => p2K2 i j (frzs vs ρ)
  | .ex c ρ => .ex c ρ
  | .st => .st
@[simp] theorem p2K_ok : p2K i j (.ok vs ρ) = p2K2 i j (frzs vs ρ) := rfl
@[simp] theorem p2K_ex : p2K i j (.ex c ρ) = .ex c ρ := rfl
@[simp] theorem par2_eq : par2 i j ml ρ = p2K i j (ml ρ) := by
  unfold par2 p2K
  cases ml ρ with
  | ok vs ρ1 =>
    show (match frzs vs ρ1 with
      | some ([x, y], ρ2) => if mayS ρ2 i = true ∧ mayS (ρ2.set i (.d x)) j = true then SR.nx ((ρ2.set i (.d x)).set j (.d y)) else .st
      | _ => .st) = p2K2 i j (frzs vs ρ1)
    unfold p2K2
    split
    · rename_i x y ρ2 e
      by_cases h1 : mayS ρ2 i = true
      · by_cases h2 : mayS (ρ2.set i (.d x)) j = true
        · rw [if_pos ⟨h1, h2⟩]
          simp only [bName, if_pos h1, bcK_some, bCons_eq, if_pos h2, bNil_eq, opS_some]
        · rw [if_neg fun h => h2 h.2]
          simp only [bName, if_pos h1, bcK_some, bCons_eq, if_neg h2, bcK, opS]
      · rw [if_neg fun h => h1 h.1]
        simp only [bName, if_neg h1, bcK, opS]
    · rfl
  | _ => rfl
def p3K2 (i j l : Nat) : Option (List D × Rho) → SR
  | some ([x, y, z], ρ) => opS (bcK (bCons (bName j) (bCons (bName l) bNil)) [y, z] (bName i x ρ))
  | _ => .st
@[simp] theorem p3K2_some {z : D} : p3K2 i j l (some ([x, y, z], ρ)) = opS (bcK (bCons (bName j) (bCons (bName l) bNil)) [y, z] (bName i x ρ)) := rfl
def p3K (i j l : Nat) : Out (List Vl) → SR
  | .ok vs ρ => p3K2 i j l (frzs vs ρ)
  | .ex c ρ => .ex c ρ
  | .st => .st
@[simp] theorem p3K_ok : p3K i j l (.ok vs ρ) = p3K2 i j l (frzs vs ρ) := rfl
@[simp] theorem p3K_ex : p3K i j l (.ex c ρ) = .ex c ρ := rfl
@[simp] theorem par3_eq : par3 i j l ml ρ = p3K i j l (ml ρ) := by
  unfold par3 p3K
  cases ml ρ with
  | ok vs ρ1 =>
    show (match frzs vs ρ1 with
      | some ([x, y, z], ρ2) => if mayS ρ2 i = true ∧ mayS (ρ2.set i (.d x)) j = true ∧ mayS ((ρ2.set i (.d x)).set j (.d y)) l = true then SR.nx (((ρ2.set i (.d x)).set j (.d y)).set l (.d z)) else .st
      | _ => .st) = p3K2 i j l (frzs vs ρ1)
    unfold p3K2
    split
    · rename_i x y z ρ2 e
      by_cases h1 : mayS ρ2 i = true
      · by_cases h2 : mayS (ρ2.set i (.d x)) j = true
        · by_cases h3 : mayS ((ρ2.set i (.d x)).set j (.d y)) l = true
          · rw [if_pos ⟨h1, h2, h3⟩]
            simp only [bName, if_pos h1, bcK_some, bCons_eq, if_pos h2, if_pos h3, bNil_eq, opS_some]
          · rw [if_neg fun h => h3 h.2.2]
            simp only [bName, if_pos h1, bcK_some, bCons_eq, if_pos h2, if_neg h3, bcK, opS]
        · rw [if_neg fun h => h2 h.2.1]
          simp only [bName, if_pos h1, bcK_some, bCons_eq, if_neg h2, bcK, opS]
      · rw [if_neg fun h => h1 h.1]
        simp only [bName, if_neg h1, bcK, opS]
    · rfl
  | _ => rfl
end
end
/-! loops: to be met by lemmas of one's own -/
section
variable {t : D → Rho → Option Rho} {b : Rho → SR} {src : Rho → Out (List D)} {cc : Rho → Out Bool} {e : Rho → Out Vl} {ws : List Nat}
def foK (t : D → Rho → Option Rho) (b : Rho → SR) : Out (List D) → SR
  | .ok xs ρ => forR t b xs ρ
  | .ex c ρ => .ex c ρ
  | .st => .st
@[simp] theorem foK_ok : foK t b (.ok xs ρ) = forR t b xs ρ := rfl
@[simp] theorem mFor_eq : mFor src t b ρ = foK t b (src ρ) := by
  unfold mFor foK
  cases src ρ <;> rfl
@[simp] theorem mWhile_eq : mWhile cc b ρ = whileR cc b fuel ρ := rfl
def r1K2 (ρ : Rho) : Option (List D) → Out (List D)
  | some [.int n] => if big62 n = true then .ok (rangeD 0 1 n.toNat) ρ else .st
  | _ => .st
def r1K : Out (List Vl) → Out (List D)
  | .ok vs ρ => r1K2 ρ (rdAll ρ vs)
  | .ex c ρ => .ex c ρ
  | .st => .st
@[simp] theorem r1K_ok : r1K (.ok vs ρ) = r1K2 ρ (rdAll ρ vs) := rfl
@[simp] theorem r1K2_some {n : Int} : r1K2 ρ (some [.int n]) = if big62 n = true then .ok (rangeD 0 1 n.toNat) ρ else .st := rfl
@[simp] theorem mRng1_eq {m : Rho → Out (List Vl)} : mRng1 m ρ = r1K (m ρ) := by
  unfold mRng1 r1K
  cases m ρ with
  | ok vs ρ1 =>
    show (match rdAll ρ1 vs with
      | some [.int n] => if big62 n = true then .ok (rangeD 0 1 n.toNat) ρ1 else .st
      | _ => .st) = r1K2 ρ1 (rdAll ρ1 vs)
    unfold r1K2
    split <;> simp_all
  | _ => rfl
def r2K2 (ρ : Rho) : Option (List D) → Out (List D)
  | some [.int i, .int j] => if big62 i = true ∧ big62 j = true then .ok (rangeD i 1 (j - i).toNat) ρ else .st
  | _ => .st
def r2K : Out (List Vl) → Out (List D)
  | .ok vs ρ => r2K2 ρ (rdAll ρ vs)
  | .ex c ρ => .ex c ρ
  | .st => .st
@[simp] theorem r2K_ok : r2K (.ok vs ρ) = r2K2 ρ (rdAll ρ vs) := rfl
@[simp] theorem r2K2_some {i j : Int} : r2K2 ρ (some [.int i, .int j]) = if big62 i = true ∧ big62 j = true then .ok (rangeD i 1 (j - i).toNat) ρ else .st := rfl
@[simp] theorem mRng2_eq {m : Rho → Out (List Vl)} : mRng2 m ρ = r2K (m ρ) := by
  unfold mRng2 r2K
  cases m ρ with
  | ok vs ρ1 =>
    show (match rdAll ρ1 vs with
      | some [.int i, .int j] => if big62 i = true ∧ big62 j = true then .ok (rangeD i 1 (j - i).toNat) ρ1 else .st
      | _ => .st) = r2K2 ρ1 (rdAll ρ1 vs)
    unfold r2K2
    split <;> simp_all
  | _ => rfl
def lcK (t : D → Rho → Option Rho) (c : Rho → Out Bool) (e : Rho → Out Vl) (ws : List Nat) : Out (List D) → Out Vl
  | .ok xs ρ => if canWipe ρ ws = true then lcR t c e ws xs (wipeR ρ ws) [] else .st
  | .ex c ρ => .ex c ρ
  | .st => .st
@[simp] theorem lcK_ok : lcK t cc e ws (.ok xs ρ) = if canWipe ρ ws = true then lcR t cc e ws xs (wipeR ρ ws) [] else .st := rfl
@[simp] theorem mLc_eq : mLc src t cc e ws ρ = lcK t cc e ws (src ρ) := by
  unfold mLc lcK
  cases src ρ <;> rfl
@[simp] theorem canWipe_nil : canWipe ρ [] = true := rfl
@[simp] theorem canWipe_cons : canWipe ρ (i :: ws) = (maySl ρ[i]? && canWipe ρ ws) := by rw [← mayS_eq]; rfl
@[simp] theorem wipeR_nil : wipeR ρ [] = ρ := rfl
@[simp] theorem wipeR_cons : wipeR ρ (i :: ws) = (wipeR ρ ws).set i .no := rfl
/-- what is walked -/
def sqK2 : Option (Bool × List D × Rho) → Out (List D)
  | some (_, xs, ρ) => .ok xs ρ
  | none => .st
@[simp] theorem sqK2_some {q : Bool} : sqK2 (some (q, xs, ρ)) = .ok xs ρ := rfl
def sqK : Out Vl → Out (List D)
  | .ok v ρ => sqK2 (itemsOf v ρ)
  | .ex c ρ => .ex c ρ
  | .st => .st
@[simp] theorem sqK_ok : sqK (.ok v ρ) = sqK2 (itemsOf v ρ) := rfl
@[simp] theorem mSeq_eq {m : Rho → Out Vl} : mSeq m ρ = sqK (m ρ) := by
  unfold mSeq sqK
  cases m ρ with
  | ok v ρ1 =>
    show (oOf (itemsOf v ρ1) ρ1 : Out _).bind _ = sqK2 (itemsOf v ρ1)
    cases itemsOf v ρ1 <;> rfl
  | _ => rfl
def itSl (i : Nat) (ρ : Rho) : Option Sl → Option (Bool × List D × Rho)
  | some (.scr ns) => some (false, ns.map PyData.int, ρ)
  | s => asSeq (frzSl i ρ s)
@[simp] theorem itemsOf_s : itemsOf (.s i) ρ = itSl i ρ ρ[i]? := by
  show (match ρ[i]? with
    | some (.scr ns) => some (false, ns.map PyData.int, ρ)
    | _ => asSeq (frz1 (.s i) ρ)) = _
  rw [frz1_s]
  unfold itSl
  cases ρ[i]? with
  | none => rfl
  | some s => cases s <;> rfl
@[simp] theorem itSl_s {ns : List Int} : itSl i ρ (some (.scr ns)) = some (false, ns.map PyData.int, ρ) := rfl
@[simp] theorem itSl_o : itSl i ρ (some (.o .own (.lst xs))) = some (false, xs, ρ.set i (.d (.list xs))) := rfl
@[simp] theorem itSl_l : itSl i ρ (some (.d (.list xs))) = some (false, xs, ρ) := rfl
@[simp] theorem itSl_t : itSl i ρ (some (.d (.tuple xs))) = some (true, xs, ρ) := rfl
@[simp] theorem itemsOf_n : itemsOf (.n (.lst xs)) ρ = some (false, xs, ρ) := rfl
@[simp] theorem itemsOf_l : itemsOf (.d (.list xs)) ρ = some (false, xs, ρ) := rfl
@[simp] theorem itemsOf_t : itemsOf (.d (.tuple xs)) ρ = some (true, xs, ρ) := rfl
/-! a list changed -/
def muSl : Option Sl → Bool
  | some (.o _ (.lst _)) => true
  | _ => false
@[simp] theorem muSl_o {m : Md} : muSl (some (.o m (.lst xs))) = true := rfl
def meK2 (i : Nat) (m : Md) (ρ : Rho) : Option (List D × D) → Out Vl
  | some (ys, r) => .ok (.d r) (ρ.set i (.o m (.lst ys)))
  | none => .st
@[simp] theorem meK2_some {m : Md} : meK2 i m ρ (some (xs, x)) = .ok (.d x) (ρ.set i (.o m (.lst xs))) := rfl
def meK (i : Nat) (g : List D → List D → Option (List D × D)) (args : List D) (ρ : Rho) : Option Sl → Out Vl
  | some (.o .own (.lst xs)) => meK2 i .own ρ (g xs args)
  | some (.o .mut (.lst xs)) => meK2 i .mut ρ (g xs args)
  | _ => .st
section
variable {g : List D → List D → Option (List D × D)} {m : Rho → Out (List Vl)} {args : List D}
@[simp] theorem meK_own : meK i g args ρ (some (.o .own (.lst xs))) = meK2 i .own ρ (g xs args) := rfl
@[simp] theorem meK_mut : meK i g args ρ (some (.o .mut (.lst xs))) = meK2 i .mut ρ (g xs args) := rfl
theorem mMutEnd_eq : mMutEnd i g args ρ = meK i g args ρ ρ[i]? := by
  unfold mMutEnd meK
  cases ρ[i]? with
  | none => rfl
  | some s =>
    cases s with
    | o m c =>
      cases c with
      | lst xs =>
        cases m with
        | ro => rfl
        | _ =>
          dsimp only
          rw [if_neg (by decide)]
          cases g xs args <;> rfl
      | dct _ => cases m <;> rfl
    | _ => rfl
def muK2 (i : Nat) (g : List D → List D → Option (List D × D)) : Option (List D × Rho) → Out Vl
  | some (xs, ρ) => meK i g xs ρ ρ[i]?
  | none => .st
@[simp] theorem muK2_some : muK2 i g (some (xs, ρ)) = meK i g xs ρ ρ[i]? := rfl
def muK (i : Nat) (g : List D → List D → Option (List D × D)) : Out (List Vl) → Out Vl
  | .ok vs ρ => muK2 i g (frzs vs ρ)
  | .ex c ρ => .ex c ρ
  | .st => .st
@[simp] theorem muK_ok : muK i g (.ok vs ρ) = muK2 i g (frzs vs ρ) := rfl
@[simp] theorem muK_ex : muK i g (.ex c ρ) = .ex c ρ := rfl
@[simp] theorem mMut_eq : mMut i g m ρ = if muSl ρ[i]? = true then muK i g (m ρ) else .st := by
  unfold mMut
  have e : isLst ρ i = muSl ρ[i]? := by
    unfold isLst muSl
    cases ρ[i]? with
    | none => rfl
    | some s =>
      cases s with
      | o m c => cases c <;> rfl
      | _ => rfl
  rw [e]
  have e2 : ((m ρ).bind fun vs ρ1 => (oOf (frzs vs ρ1) ρ1 : Out _).bind fun p _ => mMutEnd i g p.1 p.2) = muK i g (m ρ) := by
    unfold muK
    cases m ρ with
    | ok vs ρ1 =>
      show (oOf (frzs vs ρ1) ρ1 : Out _).bind _ = muK2 i g (frzs vs ρ1)
      cases frzs vs ρ1 with
      | none => rfl
      | some p => exact mMutEnd_eq
    | _ => rfl
  rw [e2]
end
@[simp] theorem gPop_eq : gPop xs [] = (xs.getLast?).map fun y => (xs.dropLast, y) := rfl
@[simp] theorem gAppend_eq : gAppend xs [y] = if xs.length < szL then some (xs ++ [y], .none) else none := rfl
@[simp] theorem gExtend_eq : gExtend xs [.list ys] = if xs.length + ys.length ≤ szL then some (xs ++ ys, .none) else none := rfl
@[simp] theorem gReverse_eq : gReverse xs [] = some (xs.reverse, .none) := rfl
/-! a selected def, methods that read, try -/
def slK (n : Nat) (m : Rho → Out (List Vl)) (ρ : Rho) : Option (Rho → Out Vl) → Out Vl
  | some g => mCallD n g m ρ
  | none => .st
@[simp] theorem slK_some {m : Rho → Out (List Vl)} {g : Rho → Out Vl} : slK n m ρ (some g) = mCallD n g m ρ := rfl
def slK2 (n : Nat) (gs : List (Rho → Out Vl)) (m : Rho → Out (List Vl)) (ρ : Rho) : Option D → Out Vl
  | some (.int i) => slK n m ρ (atI gs i)
  | _ => .st
@[simp] theorem slK2_some {gs : List (Rho → Out Vl)} {m : Rho → Out (List Vl)} {i : Int} : slK2 n gs m ρ (some (.int i)) = slK n m ρ (atI gs i) := rfl
def slK1 (n : Nat) (gs : List (Rho → Out Vl)) (m : Rho → Out (List Vl)) : Out Vl → Out Vl
  | .ok v ρ => slK2 n gs m ρ (rd ρ v)
  | .ex c ρ => .ex c ρ
  | .st => .st
@[simp] theorem slK1_ok {gs : List (Rho → Out Vl)} {m : Rho → Out (List Vl)} : slK1 n gs m (.ok v ρ) = slK2 n gs m ρ (rd ρ v) := rfl
@[simp] theorem mSel_eq {gs : List (Rho → Out Vl)} {mi : Rho → Out Vl} {m : Rho → Out (List Vl)} : mSel n gs mi m ρ = slK1 n gs m (mi ρ) := by
  unfold mSel slK1
  cases mi ρ with
  | ok v ρ1 =>
    show (match rd ρ1 v with
      | some (.int i) => (match atI gs i with
        | some g => mCallD n g m ρ1
        | none => .st)
      | _ => .st) = slK2 n gs m ρ1 (rd ρ1 v)
    cases rd ρ1 v with
    | none => rfl
    | some x =>
      cases x with
      | int i =>
        show (match atI gs i with
          | some g => mCallD n g m ρ1
          | none => .st) = slK n m ρ1 (atI gs i)
        cases atI gs i <;> rfl
      | _ => rfl
  | _ => rfl
def tyK (i : Nat) (kn : Nat → Str) : SR → SR
  | .ex c ρ => if maySl ρ[i]? = true then .rt (.d (.str (kn c))) (ρ.set i .no) else .st
  | r => r
section
variable {kn : Nat → Str}
@[simp] theorem tyK_ex : tyK i kn (.ex c ρ) = if maySl ρ[i]? = true then .rt (.d (.str (kn c))) (ρ.set i .no) else .st := rfl
@[simp] theorem tyK_nx : tyK i kn (.nx ρ) = .nx ρ := rfl
@[simp] theorem tyK_rt : tyK i kn (.rt v ρ) = .rt v ρ := rfl
@[simp] theorem mTryK_eq : mTryK i kn b ρ = tyK i kn (b ρ) := by
  unfold mTryK tyK
  cases b ρ with
  | ex c ρ1 => simp only [mayS_eq]
  | _ => rfl
end
end
/-! a def's end -/
@[simp] theorem exitF_nx {as : Rho} : exitF as (.nx ρ) = .ok (.d .none) (backOf as ρ) := rfl
@[simp] theorem exitF_d {as : Rho} : exitF as (.rt (.d x) ρ) = .ok (.d x) (backOf as ρ) := rfl
@[simp] theorem exitF_n {as : Rho} {x : Co} : exitF as (.rt (.n x) ρ) = .ok (.n x) (backOf as ρ) := rfl
@[simp] theorem exitF_ex {as : Rho} : exitF as (.ex c ρ) = .ex c (backOf as ρ) := rfl
def exK (as ρ : Rho) : Option Sl → Out Vl
  | some (.d x) => .ok (.d x) (backOf as ρ)
  | some (.o .own c) => .ok (.n c) (backOf as ρ)
  | _ => .st
@[simp] theorem exK_d {as : Rho} : exK as ρ (some (.d x)) = .ok (.d x) (backOf as ρ) := rfl
@[simp] theorem exK_o {as : Rho} {c : Co} : exK as ρ (some (.o .own c)) = .ok (.n c) (backOf as ρ) := rfl
@[simp] theorem exitF_s {as : Rho} : exitF as (.rt (.s i) ρ) = exK as ρ ρ[i]? := by
  show (match ρ[i]? with
    | some (.d x) => Out.ok (Vl.d x) (backOf as ρ)
    | some (.o .own c) => Out.ok (Vl.n c) (backOf as ρ)
    | _ => Out.st) = _
  unfold exK
  cases ρ[i]? with
  | none => rfl
  | some s =>
    cases s with
    | o m c => cases m <;> rfl
    | _ => rfl
section
variable {as rs : Rho} {r : Sl}
@[simp] theorem backOf_d : backOf (.d x :: as) (r :: rs) = .d x :: backOf as rs := rfl
@[simp] theorem backOf_o {m : Md} {c : Co} : backOf (.o m c :: as) (r :: rs) = r :: backOf as rs := rfl
@[simp] theorem backOf_s {ns : List Int} : backOf (.scr ns :: as) (r :: rs) = .scr ns :: backOf as rs := rfl
@[simp] theorem backOf_e {a : Addr} : backOf (.e a :: as) (r :: rs) = .e a :: backOf as rs := rfl
@[simp] theorem backOf_nil : backOf [] rs = [] := by cases rs <;> rfl
end
@[simp] theorem pad_def (as : Rho) (n : Nat) : pad as n = as ++ List.replicate (n - as.length) .no := rfl
end
/-! ### operations over ints -/
section
variable {i j : Int} {xs ys : List D}
@[simp] theorem gAdd_i : gAdd (.int i) (.int j) = some (.d (.int (i + j))) := rfl
@[simp] theorem gAddI_i : gAddI (.int i) (.int j) = some (.d (.int (i + j))) := rfl
@[simp] theorem gSub_i : gSub (.int i) (.int j) = some (.d (.int (i - j))) := rfl
theorem gMul_i (h : Bg i) (h2 : Bg j) : gMul (.int i) (.int j) = some (.d (.int (i * j))) := if_pos ⟨h, h2⟩
theorem gFdiv_i (h : Dv j) : gFdiv (.int i) (.int j) = some (.d (.int (i / j))) := if_pos h
theorem gMod_i (h : 0 < j) : gMod (.int i) (.int j) = some (.d (.int (i % j))) := if_pos h
theorem gShl_i (h : 0 ≤ j) (h2 : j ≤ 2097152) (h3 : Bg i) : gShl (.int i) (.int j) = some (.d (.int (i * 2 ^ j.toNat))) := if_pos ⟨h, h2, h3⟩
theorem gShr_i (h : 0 ≤ j) : gShr (.int i) (.int j) = some (.d (.int (i / 2 ^ j.toNat))) := if_pos h
theorem gXor_i (h : 0 ≤ i) (h2 : 0 ≤ j) : gXor (.int i) (.int j) = some (.d (.int ((i.toNat ^^^ j.toNat : Nat) : Int))) := if_pos ⟨h, h2⟩
theorem gAnd_i (h : 0 ≤ i) (h2 : 0 ≤ j) : gAnd (.int i) (.int j) = some (.d (.int ((i.toNat &&& j.toNat : Nat) : Int))) := if_pos ⟨h, h2⟩
theorem gOr_i (h : 0 ≤ i) (h2 : 0 ≤ j) : gOr (.int i) (.int j) = some (.d (.int ((i.toNat ||| j.toNat : Nat) : Int))) := if_pos ⟨h, h2⟩
theorem gPow_i (h : 0 ≤ j) (h2 : j ≤ 1000000) (h3 : i.natAbs < 2 ^ 64) : gPow (.int i) (.int j) = some (.d (.int (i ^ j.toNat))) := if_pos ⟨h, h2, h3⟩
@[simp] theorem gXor_n {a b : Nat} : gXor (.int a) (.int b) = some (.d (.int ((a ^^^ b : Nat) : Int))) := gXor_i (Int.natCast_nonneg _) (Int.natCast_nonneg _)
@[simp] theorem gAnd_n {a b : Nat} : gAnd (.int a) (.int b) = some (.d (.int ((a &&& b : Nat) : Int))) := gAnd_i (Int.natCast_nonneg _) (Int.natCast_nonneg _)
@[simp] theorem gOr_n {a b : Nat} : gOr (.int a) (.int b) = some (.d (.int ((a ||| b : Nat) : Int))) := gOr_i (Int.natCast_nonneg _) (Int.natCast_nonneg _)
@[simp] theorem gNeg_i : gNeg (.int i) = some (.d (.int (-i))) := rfl
@[simp] theorem gEq_i : gEq (.int i) (.int j) = some (.d (.bool (decide (i = j)))) := rfl
@[simp] theorem gNe_i : gNe (.int i) (.int j) = some (.d (.bool (!decide (i = j)))) := rfl
@[simp] theorem gLt_i : gLt (.int i) (.int j) = some (.d (.bool (decide (i < j)))) := rfl
@[simp] theorem gLe_i : gLe (.int i) (.int j) = some (.d (.bool (decide (i ≤ j)))) := rfl
@[simp] theorem gGt_i : gGt (.int i) (.int j) = some (.d (.bool (decide (j < i)))) := rfl
@[simp] theorem gGe_i : gGe (.int i) (.int j) = some (.d (.bool (decide (j ≤ i)))) := rfl
@[simp] theorem gBits_i : gBits (.int i) = some (.d (.int (Builtin.Int.intBits i : Nat))) := rfl
@[simp] theorem gInt_i : gInt [.int i] = some (.d (.int i)) := rfl
@[simp] theorem gIx_l : gIx (.list xs) (.int i) = (atI xs i).map .d := rfl
@[simp] theorem gIx_t : gIx (.tuple xs) (.int i) = (atI xs i).map .d := rfl
@[simp] theorem gLen_l : gLen [.list xs] = some (.d (.int xs.length)) := rfl
@[simp] theorem gLen_t : gLen [.tuple xs] = some (.d (.int xs.length)) := rfl
@[simp] theorem gTuple_l : gTuple [.list xs] = some (.d (.tuple xs)) := rfl
@[simp] theorem gTuple_t : gTuple [.tuple xs] = some (.d (.tuple xs)) := rfl
@[simp] theorem gList_l : gList [.list xs] = some (.n (.lst xs)) := rfl
@[simp] theorem gList_t : gList [.tuple xs] = some (.n (.lst xs)) := rfl
@[simp] theorem gAdd_l : gAdd (.list xs) (.list ys) = if xs.length + ys.length ≤ sizeLine then some (.n (.lst (xs ++ ys))) else none := rfl
theorem Dv.lit (h : (decide (0 < j) && decide (j < 2 ^ 64)) = true) : Dv j := by
  rw [Bool.and_eq_true, decide_eq_true_eq, decide_eq_true_eq] at h
  exact .of64 h.1 h.2
end
end EV
set_option maxHeartbeats 400000
namespace EV
open PySem PySem.Spec PyProof.Rows L2
section
variable {ρ : Rho} {v : Vl} {vs : List Vl} {x : D} {xs : List D} {c : Nat} {T : String} {g : D → List D → Option Vl} {mo : Rho → Out Vl} {ma : Rho → Out (List Vl)}
def o3 (g : D → List D → Option Vl) : Option D → Option (List D) → Option Vl
  | some x, some xs => g x xs
  | _, _ => none
@[simp] theorem o3_some : o3 g (some x) (some xs) = g x xs := rfl
def reK2 (g : D → List D → Option Vl) (v : Vl) : Out (List Vl) → Out Vl
  | .ok vs ρ => oOf (o3 g (rd ρ v) (rdAll ρ vs)) ρ
  | .ex c ρ => .ex c ρ
  | .st => .st
@[simp] theorem reK2_ok : reK2 g v (.ok vs ρ) = oOf (o3 g (rd ρ v) (rdAll ρ vs)) ρ := rfl
def isTo (T : String) : Option D → Bool
  | some x => isTy T x
  | none => false
@[simp] theorem isTo_some : isTo T (some x) = isTy T x := rfl
@[simp] theorem isTy_l : isTy "list" (.list xs) = true := rfl
@[simp] theorem isTy_s {z : Str} : isTy "str" (.str z) = true := rfl
@[simp] theorem isTy_i {i : Int} : isTy "int" (.int i) = true := rfl
@[simp] theorem isTy_d {xs : List (D × D)} : isTy "dict" (.dict xs) = true := rfl
def reK (T : String) (g : D → List D → Option Vl) (ma : Rho → Out (List Vl)) : Out Vl → Out Vl
  | .ok v ρ => if isTo T (rd ρ v) = true then reK2 g v (ma ρ) else .st
  | .ex c ρ => .ex c ρ
  | .st => .st
@[simp] theorem reK_ok : reK T g ma (.ok v ρ) = if isTo T (rd ρ v) = true then reK2 g v (ma ρ) else .st := rfl
@[simp] theorem mRead_eq : mRead T g mo ma ρ = reK T g ma (mo ρ) := by
  unfold mRead reK
  cases mo ρ with
  | ok v ρ1 =>
    show (oOf ((rd ρ1 v).bind fun x => if isTy T x = true then some () else none) ρ1 : Out Unit).bind _ = if isTo T (rd ρ1 v) = true then reK2 g v (ma ρ1) else .st
    cases rd ρ1 v with
    | none => rfl
    | some x =>
      show (oOf (if isTy T x = true then some () else none) ρ1 : Out Unit).bind _ = if isTy T x = true then reK2 g v (ma ρ1) else .st
      by_cases h : isTy T x = true
      · rw [if_pos h, if_pos h]
        show (ma ρ1).bind _ = reK2 g v (ma ρ1)
        cases ma ρ1 with
        | ok vs ρ2 =>
          show oOf _ ρ2 = oOf _ ρ2
          congr 1
          cases rd ρ2 v with
          | none => rfl
          | some y => cases rdAll ρ2 vs <;> rfl
        | _ => rfl
      · rw [if_neg h, if_neg h]; rfl
  | _ => rfl
end
@[simp] theorem mIsE_eq {i : Nat} {a : Addr} {b : Bool} {ρ : Rho} (h : ρ[i]? = some (.e a)) : mIsE i a b ρ = .ok (.d (.bool b)) ρ := by
  unfold mIsE
  rw [h]
  exact if_pos rfl
/-! ### from what the top has written -/
theorem fnG_mk {P : Program} {w : World} {K : PySem.W.Frag} {mg : Str → Option Value} {base : Heap} {cv : Nat → Value} {k : Nat} {x : Str} {st : Stmt} {f : Addr} {fd : FuncData} {N ps : List Str} {g : Rho → Out Vl} {mb : Rho → SR} (F : Fun K x x st f fd) (S : FnScope N ps (defScope st))
    (hb : ∀ (f : Addr) (cdv : Value) (A : Around) (outer : List Env) (s : Shared) (H : Hp) (E : XK), RoomG k (A.deeper (envOfC x (defScope st) s.heap.objs.size f cdv)) →
      VB (cxOf (L2.CX P w) P w K mg base N x (defScope st) f cdv A outer s H E) cv (fun cls d _ H' => E cls d H') (defBody st) mb)
    (hg : ∀ as : Rho, as.length = ps.length → g as = .st ∨ exitF as (mb (pad as N.length)) = g as) : FnG P w K mg base cv (k + 1) f fd ps g := fn_okG F S fun cdv A outer s H E hr => ⟨mb, hb f cdv A outer s H E hr, hg⟩
theorem def_mk {K : PySem.W.Frag} {h : Heap} {mg : Str → Option Value} {y x : Str} {st : Stmt} {ps : List Str} {f : Addr} {od an : Option Addr} {sl : Array (Option Value)} {oc kV dc pm cd ct : Value} (X : K.In h) (G : h.Ns mainGlobals mg) (a : PySem.W.nsIn K mainGlobals y = some (some (.ref f)))
    (l : K.lookup f = some ⟨oc, od, .func (PySem.W.fnOf x x (defArgs st) (defBody st) (defScope st) .none kV dc pm an cd ct), sl⟩) (c : PySem.W.codeIn K cd x = true) (k : PySem.W.keepIn K (.ref f) = true)
    (b : ∀ (kV doc pm : Value) (an : Option Addr) (cdv ct : Value) (us : List Value), us.length = ps.length → bindArgs (PySem.W.fnOf x x (defArgs st) (defBody st) (defScope st) .none kV doc pm an cdv ct) ⟨us, []⟩ = pure (ps.zip us)) : DefIn K mg y x st ps :=
  have F := fun_mk l c k
  ⟨f, _, PySem.W.mg_of X G a, F, F.binds b⟩
theorem kit_of {K : PySem.W.Frag} {D C : Addr} {b : Bool} (h2 : PySem.W.isClsIn K C = true) (h3 : PySem.W.typeIn K (.ref C) = some (.type "type")) (h4 : PySem.W.subIn K (.ref D) (.ref C) = some b) (h5 : (Value.ref D == Value.ref C) = true → b = true) : PySem.W.kitOne K (.ref D) (.ref C) = some b := by
  unfold PySem.W.kitOne
  split
  · rename_i e; rw [h5 e]
  · have e : ((PySem.W.clsIn K C).isSome && PySem.W.typeIn K (.ref C) == some (.type "type")) = true := by
      have h2' : (PySem.W.clsIn K C).isSome = true := h2
      rw [h2', h3]; rfl
    exact (if_pos e).trans h4
theorem exm_of {K : PySem.W.Frag} {D C : Addr} (h1 : PySem.W.subIn K (.ref C) (.type "BaseException") = some true) (h2 : PySem.W.isClsIn K C = true) (h3 : PySem.W.typeIn K (.ref C) = some (.type "type")) (h4 : PySem.W.subIn K (.ref D) (.ref C) = some true) : PySem.W.exmOne K (.ref D) (.ref C) = some true := by
  have e1 : (PySem.W.subIn K (.ref C) (.type "BaseException") == some true) = true := by rw [h1]; rfl
  have e2 : ((PySem.W.clsIn K C).isSome && PySem.W.typeIn K (.ref C) == some (.type "type")) = true := by
    have h2' : (PySem.W.clsIn K C).isSome = true := h2
    rw [h2', h3]; rfl
  exact (if_pos e1).trans ((if_pos e2).trans h4)
/-- what is asked of an error's class, by itself -/
structure Cl (K : PySem.W.Frag) (h : Heap) (mg : Str → Option Value) (x : Str) (C : Addr) : Prop where
  gl : PySem.W.nsIn K mainGlobals x = some (some (.ref C))
  ok : PySem.W.excIn K C [.type "ValueError", .type "Exception", .type "BaseException", .type "object"] "ValueError.__new__" = true
  kp : PySem.W.keepIn K (.ref C) = true
  sb : PySem.W.subIn K (.ref C) (.type "BaseException") = some true
  ty : PySem.W.typeIn K (.ref C) = some (.type "type")
  ic : PySem.W.isClsIn K C = true
  hg : PySem.W.findIn K (.ref C) "__getattribute__" = some (some (.builtin "BaseException.__getattribute__"))
  hk : PySem.W.findIn K (.ref C) "__getattr__" = some none
  hd : PySem.W.hasDictIn K C = true
  ha : PySem.W.findIn K (.ref C) "__class__" = some (some (.builtin "object.__class__"))
  hm : PySem.W.mroIn K C (.type "object") = some true
theorem Cl.exc {K : PySem.W.Frag} {h : Heap} {mg : Str → Option Value} {x : Str} {C : Addr} (c : Cl K h mg x C) (hn : PySem.W.specialIn K (.builtin "object.__class__") "__get__" = some (some (.builtin "getset_descriptor.__get__"))) (ht : PySem.W.takesIn K (.builtin "object.__class__") = some true) : ExcC K C :=
  ⟨c.hg, c.hk, c.sb, c.hd, c.ha, hn, ht, c.hm⟩
theorem Cl.exn {K : PySem.W.Frag} {h : Heap} {mg : Str → Option Value} {x : Str} {C : Addr} (X : K.In h) (G : h.Ns mainGlobals mg) (c : Cl K h mg x C) (e : ExcC K C) : Exn K mg x C := ⟨PySem.W.mg_of X G c.gl, c.ok, c.kp, c.sb, c.ty, e⟩
end EV
set_option maxHeartbeats 400000
namespace EV
open PySem PySem.Spec PyProof.Rows L2
/-! ### loops by what holds between two turns -/
def od : Option D → Sl
  | none => .no
  | some x => .d x
@[simp] theorem od_no : od none = .no := rfl
@[simp] theorem od_d {x : D} : od (some x) = .d x := rfl
@[simp] theorem maySl_od {x : Option D} : maySl (some (od x)) = true := by cases x <;> rfl
section
variable {α : Type}
theorem while_run {c : Rho → Out Bool} {b : Rho → SR} (I : α → Rho) (inv post : α → Prop) (μ : α → Nat)
    (h : ∀ a, inv a → (c (I a) = .ok false (I a) ∧ post a) ∨ (c (I a) = .ok true (I a) ∧ ∃ a', b (I a) = .nx (I a') ∧ inv a' ∧ μ a' < μ a)) :
    ∀ (n : Nat) (a : α), inv a → μ a < n → ∃ a', whileR c b n (I a) = .nx (I a') ∧ post a' := by
  intro n
  induction n with
  | zero => intro a _ hm; exact absurd hm (Nat.not_lt_zero _)
  | succ n ih =>
    intro a hi hm
    rcases h a hi with ⟨h1, h2⟩ | ⟨h1, a', h2, h3, h4⟩
    · exact ⟨a, by unfold whileR; rw [h1]; rfl, h2⟩
    · obtain ⟨a2, g1, g2⟩ := ih a' h3 (by omega)
      refine ⟨a2, ?_, g2⟩
      unfold whileR
      rw [h1]
      show (if true = true then (match b (I a) with
        | .nx ρ2 => whileR c b n ρ2
        | .ct ρ2 => whileR c b n ρ2
        | .bk ρ2 => .nx ρ2
        | r => r) else .nx (I a)) = _
      rw [if_pos rfl, h2]
      exact g1
theorem for_run {t : D → Rho → Option Rho} {b : Rho → SR} (I : α → Rho) (inv : List D → α → Prop)
    (h : ∀ x xs a, inv (x :: xs) a → ∃ ρ a', t x (I a) = some ρ ∧ (b ρ = .nx (I a') ∨ b ρ = .ct (I a')) ∧ inv xs a') :
    ∀ (xs : List D) (a : α), inv xs a → ∃ a', forR t b xs (I a) = .nx (I a') ∧ inv [] a' := by
  intro xs
  induction xs with
  | nil => intro a hi; exact ⟨a, rfl, hi⟩
  | cons x xs ih =>
    intro a hi
    obtain ⟨ρ, a', h1, h2, h3⟩ := h x xs a hi
    obtain ⟨a2, g1, g2⟩ := ih a' h3
    refine ⟨a2, ?_, g2⟩
    unfold forR
    rw [h1]
    dsimp only
    rcases h2 with h2 | h2 <;> rw [h2] <;> exact g1
/-- with break: more items than turns -/
theorem for_brk {t : D → Rho → Option Rho} {b : Rho → SR} (I : α → Rho) (inv post : α → Prop) (μ : α → Nat)
    (h : ∀ x a, inv a → ∃ ρ a', t x (I a) = some ρ ∧ ((b ρ = .bk (I a') ∧ post a') ∨ (b ρ = .nx (I a') ∧ inv a' ∧ μ a' < μ a))) :
    ∀ (xs : List D) (a : α), inv a → μ a < xs.length → ∃ a', forR t b xs (I a) = .nx (I a') ∧ post a' := by
  intro xs
  induction xs with
  | nil => intro a _ hm; exact absurd hm (Nat.not_lt_zero _)
  | cons x xs ih =>
    intro a hi hm
    obtain ⟨ρ, a', h1, h2⟩ := h x a hi
    rcases h2 with ⟨h2, h3⟩ | ⟨h2, h3, h4⟩
    · refine ⟨a', ?_, h3⟩
      unfold forR
      rw [h1]
      dsimp only
      rw [h2]
    · obtain ⟨a2, g1, g2⟩ := ih a' h3 (by rw [List.length_cons] at hm; omega)
      refine ⟨a2, ?_, g2⟩
      unfold forR
      rw [h1]
      dsimp only
      rw [h2]
      exact g1
/-- a comprehension whose turns leave the slots as they were -/
theorem lc_run {t : D → Rho → Option Rho} {c : Rho → Out Bool} {e : Rho → Out Vl} {vs : List Nat} {ρ0 : Rho} {p : D → Bool} {f : D → D} :
    ∀ (xs : List D) (acc : List D), (∀ x ∈ xs, ∃ ρ1, t x ρ0 = some ρ1 ∧ c ρ1 = .ok (p x) ρ1 ∧ canWipe ρ1 vs = true ∧ wipeR ρ1 vs = ρ0 ∧ (p x = true → ∃ v, e ρ1 = .ok v ρ1 ∧ frz1 v ρ1 = some (f x, ρ1))) → acc.length + xs.length ≤ szL →
      lcR t c e vs xs ρ0 acc = .ok (.n (.lst (acc ++ (xs.filter p).map f))) ρ0 := by
  intro xs
  induction xs with
  | nil => intro acc _ _; unfold lcR; simp
  | cons x xs ih =>
    intro acc h hl
    obtain ⟨ρ1, h1, h2, h3, h4, h5⟩ := h x List.mem_cons_self
    rw [List.length_cons] at hl
    unfold lcR
    rw [h1]
    dsimp only
    rw [h2]
    cases hp : p x with
    | true =>
      obtain ⟨v, g1, g2⟩ := h5 hp
      dsimp only
      rw [g1]
      dsimp only
      rw [g2]
      dsimp only
      rw [if_pos ⟨by omega, h3⟩, h4, ih _ (fun y hy => h y (List.mem_cons_of_mem _ hy)) (by rw [List.length_append, List.length_singleton]; omega)]
      simp [List.filter_cons, hp]
    | false =>
      dsimp only
      rw [if_pos h3, h4, ih _ (fun y hy => h y (List.mem_cons_of_mem _ hy)) (by omega)]
      simp [List.filter_cons, hp]
theorem mem_rangeD {lo c : Int} {n : Nat} {x : D} (h : x ∈ rangeD lo c n) : ∃ i : Nat, i < n ∧ x = .int (lo + (i : Int) * c) := by
  unfold rangeD at h
  obtain ⟨i, h1, rfl⟩ := List.mem_map.mp h
  exact ⟨i, List.mem_range.mp h1, rfl⟩
@[simp] theorem rangeD_length {lo c : Int} {n : Nat} : (rangeD lo c n).length = n := rangeD_len lo c n
end
end EV
set_option maxHeartbeats 400000
namespace EV
open PySem PySem.Spec PyProof.Rows L2
/-! ### natural numbers as data: no casts in sight -/
def dn (n : Nat) : D := .int (n : Int)
theorem int_dn (n : Nat) : PyData.int (n : Int) = dn n := rfl
theorem dn_inj {a b : Nat} (h : dn a = dn b) : a = b := by
  unfold dn at h
  injection h with h
  omega
section
variable {a b : Nat}
@[simp] theorem gAdd_dn : gAdd (dn a) (dn b) = some (.d (dn (a + b))) := rfl
@[simp] theorem gAddI_dn : gAddI (dn a) (dn b) = some (.d (dn (a + b))) := rfl
theorem gSub_dn (h : b ≤ a) : gSub (dn a) (dn b) = some (.d (dn (a - b))) := by
  show some (Vl.d (.int ((a : Int) - (b : Int)))) = some (.d (.int ((a - b : Nat) : Int)))
  rw [Int.ofNat_sub h]
theorem gMul_dn (h : Bg a) (h2 : Bg b) : gMul (dn a) (dn b) = some (.d (dn (a * b))) := by
  unfold dn
  rw [gMul_i h h2, Int.natCast_mul]
theorem gFdiv_dn (h : 0 < b) (h2 : b < 2 ^ 64) : gFdiv (dn a) (dn b) = some (.d (dn (a / b))) := by
  unfold dn
  rw [gFdiv_i (Dv.of64 (by omega) (by omega)), Int.natCast_ediv]
theorem gMod_dn (h : 0 < b) : gMod (dn a) (dn b) = some (.d (dn (a % b))) := by
  unfold dn
  rw [gMod_i (by omega), Int.natCast_emod]
theorem gShl_dn (h2 : b ≤ 2097152) (h3 : Bg a) : gShl (dn a) (dn b) = some (.d (dn (a * 2 ^ b))) := by
  unfold dn
  rw [gShl_i (by omega) (by omega) h3, Int.toNat_natCast, Int.natCast_mul, Int.natCast_pow]
  rfl
@[simp] theorem gShr_dn : gShr (dn a) (dn b) = some (.d (dn (a / 2 ^ b))) := by
  unfold dn
  rw [gShr_i (by omega), Int.toNat_natCast, Int.natCast_ediv, Int.natCast_pow]
  rfl
@[simp] theorem gXor_dn : gXor (dn a) (dn b) = some (.d (dn (a ^^^ b))) := gXor_n
@[simp] theorem gAnd_dn : gAnd (dn a) (dn b) = some (.d (dn (a &&& b))) := gAnd_n
@[simp] theorem gOr_dn : gOr (dn a) (dn b) = some (.d (dn (a ||| b))) := gOr_n
theorem gPow_dn (h2 : b ≤ 1000000) (h3 : a < 2 ^ 64) : gPow (dn a) (dn b) = some (.d (dn (a ^ b))) := by
  unfold dn
  rw [gPow_i (by omega) (by omega) (by simpa using h3), Int.toNat_natCast, Int.natCast_pow]
@[simp] theorem gNeg_dn : gNeg (dn a) = some (.d (.int (-(a : Int)))) := rfl
@[simp] theorem gEq_dn : gEq (dn a) (dn b) = some (.d (.bool (decide (a = b)))) := by
  show some (Vl.d (.bool (decide ((a : Int) = (b : Int))))) = _
  congr 3
  exact decide_eq_decide.mpr (by omega)
@[simp] theorem gNe_dn : gNe (dn a) (dn b) = some (.d (.bool (!decide (a = b)))) := by
  show some (Vl.d (.bool (!decide ((a : Int) = (b : Int))))) = _
  congr 4
  exact decide_eq_decide.mpr (by omega)
@[simp] theorem gLt_dn : gLt (dn a) (dn b) = some (.d (.bool (decide (a < b)))) := by
  show some (Vl.d (.bool (decide ((a : Int) < (b : Int))))) = _
  congr 3
  exact decide_eq_decide.mpr (by omega)
@[simp] theorem gLe_dn : gLe (dn a) (dn b) = some (.d (.bool (decide (a ≤ b)))) := by
  show some (Vl.d (.bool (decide ((a : Int) ≤ (b : Int))))) = _
  congr 3
  exact decide_eq_decide.mpr (by omega)
@[simp] theorem gGt_dn : gGt (dn a) (dn b) = some (.d (.bool (decide (b < a)))) := by
  show some (Vl.d (.bool (decide ((b : Int) < (a : Int))))) = _
  congr 3
  exact decide_eq_decide.mpr (by omega)
@[simp] theorem gGe_dn : gGe (dn a) (dn b) = some (.d (.bool (decide (b ≤ a)))) := by
  show some (Vl.d (.bool (decide ((b : Int) ≤ (a : Int))))) = _
  congr 3
  exact decide_eq_decide.mpr (by omega)
@[simp] theorem gInt_dn : gInt [dn a] = some (.d (dn a)) := rfl
@[simp] theorem truD_dn : truD (dn a) = some (decide (a ≠ 0)) := by
  show some ((a : Int) != 0) = _
  congr 1
  by_cases h : a = 0
  · subst h; rfl
  · have e : ((a : Int) != 0) = true := by simpa using h
    rw [e]
    exact (decide_eq_true h).symm
theorem rangeD_dn (n : Nat) : rangeD 0 1 n = (List.range n).map dn := by
  unfold rangeD
  congr 1
  funext i
  show PyData.int _ = .int _
  congr 1
  omega
theorem big_dn (h : a < 2 ^ 62) : big62 (a : Int) = true := by
  unfold big62
  rw [Bool.and_eq_true, decide_eq_true_eq, decide_eq_true_eq]
  constructor <;> omega
theorem r1K2_dn {ρ : Rho} (h : a < 2 ^ 62) : r1K2 ρ (some [dn a]) = .ok ((List.range a).map dn) ρ := by
  show (if big62 (a : Int) = true then Out.ok (rangeD 0 1 (a : Int).toNat) ρ else .st) = _
  rw [if_pos (big_dn h), Int.toNat_natCast, rangeD_dn]
@[simp] theorem gIx_ldn {xs : List D} : gIx (.list xs) (dn a) = (xs[a]?).map Vl.d := by
  show (atI xs (a : Int)).map Vl.d = _
  unfold atI ixN
  by_cases h : a < xs.length
  · rw [if_pos (by omega), if_pos (by omega)]
    simp
  · rw [if_pos (by omega), if_neg (by omega)]
    simp [List.getElem?_eq_none (Nat.not_lt.mp h)]
@[simp] theorem gIx_tdn {xs : List D} : gIx (.tuple xs) (dn a) = (xs[a]?).map Vl.d := gIx_ldn
/-- sizes -/
theorem bgn (k : Nat) (h : a < 2 ^ k) (hk : k ≤ 2097152) : Bg (a : Int) := Bg.of k (by simpa using h) hk
theorem bg64 (h : a < 2 ^ 64) : Bg (a : Int) := bgn 64 h (by decide)
theorem bgl (h : a < 2 ^ 200) : Bg (a : Int) := bgn 200 h (by decide)
end
/-! lists of natural numbers -/
def il (ns : List Nat) : List D := ns.map dn
@[simp] theorem il_nil : il [] = [] := rfl
@[simp] theorem il_len {ns : List Nat} : (il ns).length = ns.length := List.length_map _
theorem il_app (a b : List Nat) : il (a ++ b) = il a ++ il b := List.map_append
theorem il_cons (a : Nat) (b : List Nat) : il (a :: b) = dn a :: il b := rfl
theorem gFdiv_big {a b k : Nat} (h : 0 < b) (h2 : b < 2 ^ k) (hk : k ≤ 9000) : gFdiv (dn a) (dn b) = some (.d (dn (a / b))) := by
  unfold dn
  have dv : Dv (b : Int) := ⟨by omega, by
    have : (b : Int).natAbs.log2 < k := by
      rw [Nat.log2_lt (by omega)]
      simpa using h2
    omega⟩
  rw [gFdiv_i dv, Int.natCast_ediv]
theorem intsOf_il : ∀ ns : List Nat, intsOf (il ns) = some (ns.map fun n : Nat => (n : Int))
  | [] => rfl
  | n :: ns => by
    show (intsOf (il ns)).map _ = _
    rw [intsOf_il ns]
    rfl
theorem gSum_il (ns : List Nat) : gSum [.list (il ns)] = some (.d (dn ns.sum)) := by
  show (intsOf (il ns)).map _ = _
  rw [intsOf_il]
  show some (Vl.d (.int _)) = some (Vl.d (.int _))
  congr 3
  induction ns with
  | nil => rfl
  | cons n ns ih => rw [List.map_cons, List.sum_cons, List.sum_cons, ih, Int.natCast_add]
theorem lc_map {β : Type} {t : D → Rho → Option Rho} {c : Rho → Out Bool} {e : Rho → Out Vl} {vs : List Nat} {ρ0 : Rho} (d : β → D) (p : β → Bool) (f : β → D) :
    ∀ (xs : List β) (acc : List D), (∀ x ∈ xs, ∃ ρ1, t (d x) ρ0 = some ρ1 ∧ c ρ1 = .ok (p x) ρ1 ∧ canWipe ρ1 vs = true ∧ wipeR ρ1 vs = ρ0 ∧ (p x = true → ∃ v, e ρ1 = .ok v ρ1 ∧ frz1 v ρ1 = some (f x, ρ1))) → acc.length + xs.length ≤ szL →
      lcR t c e vs (xs.map d) ρ0 acc = .ok (.n (.lst (acc ++ (xs.filter p).map f))) ρ0 := by
  intro xs
  induction xs with
  | nil => intro acc _ _; unfold lcR; simp
  | cons x xs ih =>
    intro acc h hl
    obtain ⟨ρ1, h1, h2, h3, h4, h5⟩ := h x List.mem_cons_self
    rw [List.length_cons] at hl
    rw [List.map_cons]
    unfold lcR
    rw [h1]
    dsimp only
    rw [h2]
    cases hp : p x with
    | true =>
      obtain ⟨v, g1, g2⟩ := h5 hp
      dsimp only
      rw [g1]
      dsimp only
      rw [g2]
      dsimp only
      rw [if_pos ⟨by omega, h3⟩, h4, ih _ (fun y hy => h y (List.mem_cons_of_mem _ hy)) (by rw [List.length_append, List.length_singleton]; omega)]
      simp [List.filter_cons, hp]
    | false =>
      dsimp only
      rw [if_pos h3, h4, ih _ (fun y hy => h y (List.mem_cons_of_mem _ hy)) (by omega)]
      simp [List.filter_cons, hp]
/-- for: the turns left, an end ahead of time -/
theorem for_gen {α : Type} {t : D → Rho → Option Rho} {b : Rho → SR} (I : α → Rho) (inv : List D → α → Prop) (post : α → Prop) (hend : ∀ a, inv [] a → post a)
    (h : ∀ x xs a, inv (x :: xs) a → ∃ ρ a', t x (I a) = some ρ ∧ ((b ρ = .bk (I a') ∧ post a') ∨ ((b ρ = .nx (I a') ∨ b ρ = .ct (I a')) ∧ inv xs a'))) :
    ∀ (xs : List D) (a : α), inv xs a → ∃ a', forR t b xs (I a) = .nx (I a') ∧ post a' := by
  intro xs
  induction xs with
  | nil => intro a hi; exact ⟨a, rfl, hend a hi⟩
  | cons x xs ih =>
    intro a hi
    obtain ⟨ρ, a', h1, h2⟩ := h x xs a hi
    rcases h2 with ⟨h2, h3⟩ | ⟨h2, h3⟩
    · refine ⟨a', ?_, h3⟩
      unfold forR
      rw [h1]
      dsimp only
      rw [h2]
    · obtain ⟨a2, g1, g2⟩ := ih a' h3
      refine ⟨a2, ?_, g2⟩
      unfold forR
      rw [h1]
      dsimp only
      rcases h2 with h2 | h2 <;> rw [h2] <;> exact g1
end EV
set_option maxHeartbeats 400000
namespace EV
open PySem PySem.Spec PyProof.Rows L2
/-! ### data that is shown in few letters -/
mutual
def smD : D → Bool
  | .none => true
  | .bool _ => true
  | .int i => decide (i.natAbs.log2 < 1000)
  | .str z => z.cps.toList.all fun c => decide (c < 16 ^ 8)
  | .list xs => smA xs
  | .tuple xs => smA xs
  | .dict _ => false
def smA : List D → Bool
  | [] => true
  | x :: xs => smD x && smA xs
end
mutual
theorem smD_ok : ∀ x : D, smD x = true → x.plain = true ∧ x.showable = true ∧ x.hasDict = false ∧ x.leavesShort 1001 = true
  | .none, _ => by simp [PyData.plain, PyData.showable, PyData.hasDict, PyData.leavesShort]
  | .bool _, _ => by simp [PyData.plain, PyData.showable, PyData.hasDict, PyData.leavesShort]
  | .int i, h => by
    have h : i.natAbs.log2 < 1000 := by simpa [smD] using h
    refine ⟨rfl, by simp only [PyData.showable, decide_eq_true_eq]; omega, rfl, ?_⟩
    have q := int_text_length_le (by decide) h
    have e : (PyData.shown (.int i)).length ≤ 1001 := by
      show (Str.ofString (toString i)).length ≤ 1001
      rw [PySem.ofString_length]
      exact q
    simpa only [PyData.leavesShort, decide_eq_true_eq] using e
  | .str z, h => by
    have h : (z.cps.toList.all fun c => decide (c < 16 ^ 8)) = true := by simpa only [smD] using h
    exact ⟨rfl, rfl, rfl, by simpa only [PyData.leavesShort] using h⟩
  | .list xs, h => by
    have h : smA xs = true := by simpa only [smD] using h
    obtain ⟨a, b, c, d⟩ := smA_ok xs h
    exact ⟨by simpa only [PyData.plain] using a, by simpa only [PyData.showable] using b, by simpa only [PyData.hasDict] using c, by simpa only [PyData.leavesShort] using d⟩
  | .tuple xs, h => by
    have h : smA xs = true := by simpa only [smD] using h
    obtain ⟨a, b, c, d⟩ := smA_ok xs h
    exact ⟨by simpa only [PyData.plain] using a, by simpa only [PyData.showable] using b, by simpa only [PyData.hasDict] using c, by simpa only [PyData.leavesShort] using d⟩
  | .dict _, h => by simp [smD] at h
theorem smA_ok : ∀ xs : List D, smA xs = true → PyData.plainAll xs = true ∧ PyData.showableAll xs = true ∧ PyData.hasDictAll xs = false ∧ PyData.leavesShortAll 1001 xs = true
  | [], _ => by simp [PyData.plainAll, PyData.showableAll, PyData.hasDictAll, PyData.leavesShortAll]
  | x :: xs, h => by
    have h : smD x = true ∧ smA xs = true := by simpa only [smA, Bool.and_eq_true] using h
    obtain ⟨a, b, c, d⟩ := smD_ok x h.1
    obtain ⟨a2, b2, c2, d2⟩ := smA_ok xs h.2
    simp [PyData.plainAll, PyData.showableAll, PyData.hasDictAll, PyData.leavesShortAll, a, b, c, d, a2, b2, c2, d2]
end
theorem gRepr_ok {x : D} (h : smD x = true) (hb : x.bulk ≤ 16000) (hd : x.depth ≤ 60) : gRepr [x] = some (.d (.str x.shown)) := by
  obtain ⟨a, b, c, d⟩ := smD_ok x h
  have l := PyData.shown_le_bulk 1001 (by decide) x d
  have l2 : x.shown.length ≤ sizeLine := by
    rw [sizeLine_eq]
    have : (1001 + 2) * x.bulk ≤ 1003 * 16000 := Nat.mul_le_mul_left _ hb
    omega
  have e : reprOk x = true := by
    unfold reprOk
    rw [a, b, c, decide_eq_true hd, decide_eq_true l2]
    rfl
  exact if_pos e
@[simp] theorem smD_dn {n : Nat} : smD (dn n) = decide (n.log2 < 1000) := by
  show decide _ = _
  simp
end EV
/-! ## polynomials over bits, as natural numbers -/
namespace GF
def bl (n : Nat) : Nat := if n = 0 then 0 else n.log2 + 1
theorem bl_zero : bl 0 = 0 := rfl
theorem bl_le {n k : Nat} : bl n ≤ k ↔ n < 2 ^ k := by
  unfold bl
  split
  · rename_i h; subst h; exact ⟨fun _ => Nat.two_pow_pos k, fun _ => Nat.zero_le _⟩
  · rename_i h
    rw [← Nat.log2_lt h]
    omega
theorem lt_bl (n : Nat) : n < 2 ^ bl n := bl_le.mp (Nat.le_refl _)
theorem bl_pos {n : Nat} (h : n ≠ 0) : 0 < bl n := by unfold bl; rw [if_neg h]; omega
theorem bl_ge {n k : Nat} : k < bl n ↔ 2 ^ k ≤ n := by
  have := @bl_le n k
  omega
theorem pow_bl {n : Nat} (h : n ≠ 0) : 2 ^ (bl n - 1) ≤ n := bl_ge.mp (by have := bl_pos h; omega)
theorem bl_eq {n k : Nat} (h1 : 2 ^ k ≤ n) (h2 : n < 2 ^ (k + 1)) : bl n = k + 1 := by
  have a := bl_ge.mpr h1
  have b := bl_le.mpr h2
  omega
theorem bl_two {n : Nat} (h : n ≠ 0) : bl (2 * n) = bl n + 1 := by
  have h1 := pow_bl h
  have h2 := lt_bl n
  have h3 := bl_pos h
  obtain ⟨k, hk⟩ : ∃ k, bl n = k + 1 := ⟨bl n - 1, by omega⟩
  rw [hk] at h1 h2 ⊢
  rw [Nat.add_sub_cancel] at h1
  refine bl_eq ?_ ?_
  · rw [Nat.pow_succ]; omega
  · rw [Nat.pow_succ]; omega
theorem bl_shift {n : Nat} (h : n ≠ 0) : ∀ k : Nat, bl (n * 2 ^ k) = bl n + k
  | 0 => by rw [Nat.pow_zero, Nat.mul_one, Nat.add_zero]
  | k + 1 => by
    have e : n * 2 ^ (k + 1) = 2 * (n * 2 ^ k) := by rw [Nat.pow_succ, ← Nat.mul_assoc, Nat.mul_comm]
    have nz : n * 2 ^ k ≠ 0 := Nat.mul_ne_zero h (Nat.ne_of_gt (Nat.two_pow_pos k))
    rw [e, bl_two nz, bl_shift h k]
    omega
theorem bl_pow (k : Nat) : bl (2 ^ k) = k + 1 := bl_eq (Nat.le_refl _) (Nat.pow_lt_pow_right (by decide) (Nat.lt_succ_self k))
theorem bl_half (n : Nat) : bl (n / 2) = bl n - 1 := by
  by_cases h : n = 0
  · subst h; rfl
  · have h1 := pow_bl h
    have h2 := lt_bl n
    obtain ⟨k, hk⟩ : ∃ k, bl n = k + 1 := ⟨bl n - 1, by have := bl_pos h; omega⟩
    rw [hk] at h1 h2 ⊢
    rw [Nat.add_sub_cancel] at h1 ⊢
    cases k with
    | zero =>
      have : n = 1 := by rw [Nat.pow_zero] at h1; have : n < 2 := h2; omega
      subst this; rfl
    | succ k =>
      refine bl_eq ?_ ?_
      · rw [Nat.pow_succ] at h1; omega
      · rw [Nat.pow_succ] at h2; omega
/-! xor -/
theorem xor_half (a b : Nat) : (a ^^^ b) / 2 = a / 2 ^^^ b / 2 := Nat.xor_div_two
theorem xor_mod (a b : Nat) : (a ^^^ b) % 2 = a % 2 ^^^ b % 2 := Nat.xor_mod_two_pow (n := 1)
theorem ext2 {a b : Nat} (h1 : a % 2 = b % 2) (h2 : a / 2 = b / 2) : a = b := by omega
theorem xor_two (a b : Nat) : 2 * a ^^^ 2 * b = 2 * (a ^^^ b) := by
  refine ext2 ?_ ?_
  · rw [xor_mod, Nat.mul_mod_right, Nat.mul_mod_right, Nat.mul_mod_right]; rfl
  · rw [xor_half, Nat.mul_div_cancel_left _ (by decide), Nat.mul_div_cancel_left _ (by decide), Nat.mul_div_cancel_left _ (by decide)]
theorem xor_parts (b : Nat) : (b % 2) ^^^ 2 * (b / 2) = b := by
  refine ext2 ?_ ?_
  · rw [xor_mod, Nat.mul_mod_right, Nat.mod_mod, Nat.xor_zero]
  · rw [xor_half, Nat.mul_div_cancel_left _ (by decide), show b % 2 / 2 = 0 by omega, Nat.zero_xor]
theorem xor_self (a : Nat) : a ^^^ a = 0 := Nat.xor_self a
theorem xor_cancel (a b : Nat) : a ^^^ (a ^^^ b) = b := by rw [← Nat.xor_assoc, Nat.xor_self, Nat.zero_xor]
theorem xor_cancel2 (a b : Nat) : (a ^^^ b) ^^^ b = a := by rw [Nat.xor_assoc, Nat.xor_self, Nat.xor_zero]
theorem xor_eq {a b : Nat} (h : a ^^^ b = 0) : a = b := by
  have e := xor_cancel2 a b
  rw [h, Nat.zero_xor] at e
  exact e.symm
theorem xor_mid (a b c d : Nat) : (a ^^^ b) ^^^ (c ^^^ d) = (a ^^^ c) ^^^ (b ^^^ d) := by
  rw [Nat.xor_assoc, Nat.xor_assoc, ← Nat.xor_assoc b, Nat.xor_comm b c, Nat.xor_assoc c b]
theorem bl_xor_le {a b k : Nat} (h1 : bl a ≤ k) (h2 : bl b ≤ k) : bl (a ^^^ b) ≤ k := bl_le.mpr (Nat.xor_lt_two_pow (bl_le.mp h1) (bl_le.mp h2))
/-- the greater one's top stays -/
theorem bl_xor_top {a b : Nat} (h : bl b < bl a) : bl (a ^^^ b) = bl a := by
  have h1 := bl_xor_le (Nat.le_refl (bl a)) (Nat.le_of_lt h)
  refine Nat.le_antisymm h1 (Nat.not_lt.mp fun h2 => ?_)
  have h3 : bl ((a ^^^ b) ^^^ b) ≤ bl a - 1 := bl_xor_le (by omega) (by omega)
  rw [xor_cancel2] at h3
  omega
/-- equal tops go -/
theorem bl_xor_lt {a b : Nat} (h : bl a = bl b) (ha : a ≠ 0) : bl (a ^^^ b) < bl a := by
  have p := bl_pos ha
  have hb : b ≠ 0 := fun z => by rw [z, bl_zero] at h; omega
  suffices q : a ^^^ b < 2 ^ (bl a - 1) by
    have := bl_le.mpr q
    omega
  refine Nat.lt_pow_two_of_testBit _ fun i hi => ?_
  rw [Nat.testBit_xor]
  by_cases hi2 : i = bl a - 1
  · have t : ∀ n : Nat, n ≠ 0 → bl n = bl a → n.testBit (bl a - 1) = true := fun n hn e => by
      have g1 := pow_bl hn
      have g2 := lt_bl n
      rw [e] at g1 g2
      rw [Nat.testBit_eq_decide_div_mod_eq, decide_eq_true_eq]
      have e2 : 2 ^ bl a = 2 * 2 ^ (bl a - 1) := by rw [← Nat.pow_succ']; congr 1; omega
      rw [e2] at g2
      have d : n / 2 ^ (bl a - 1) = 1 := by
        refine Nat.div_eq_of_lt_le (by omega) (by omega)
      rw [d]
    subst hi2
    rw [t a ha rfl, t b hb h.symm]
    rfl
  · have hi3 : bl a ≤ i := by omega
    rw [Nat.testBit_lt_two_pow (Nat.lt_of_lt_of_le (lt_bl a) (Nat.pow_le_pow_right (by decide) hi3)), Nat.testBit_lt_two_pow (Nat.lt_of_lt_of_le (lt_bl b) (Nat.pow_le_pow_right (by decide) (h ▸ hi3)))]
    rfl
/-! the product -/
def ml (a : Nat) (b : Nat) : Nat := if h : b = 0 then 0 else (if b % 2 = 1 then a else 0) ^^^ 2 * ml a (b / 2)
termination_by b
decreasing_by omega
theorem ml_zero (a : Nat) : ml a 0 = 0 := by unfold ml; rfl
theorem ml_eq (a b : Nat) : ml a b = (if b % 2 = 1 then a else 0) ^^^ 2 * ml a (b / 2) := by
  by_cases h : b = 0
  · subst h; rw [ml_zero]; simp [ml_zero]
  · conv => lhs; unfold ml
    rw [dif_neg h]
theorem half_rec {P : Nat → Prop} (h0 : P 0) (h : ∀ b, b ≠ 0 → P (b / 2) → P b) (b : Nat) : P b := by
  induction b using Nat.strongRecOn with
  | ind b ih =>
    by_cases hb : b = 0
    · subst hb; exact h0
    · exact h b hb (ih (b / 2) (by omega))
theorem ml_zero_left (b : Nat) : ml 0 b = 0 := by
  induction b using half_rec with
  | h0 => exact ml_zero 0
  | h b hb ih => rw [ml_eq, ih]; split <;> rfl
theorem ml_two_left (a b : Nat) : ml (2 * a) b = 2 * ml a b := by
  induction b using half_rec with
  | h0 => rw [ml_zero, ml_zero]
  | h b hb ih =>
    rw [ml_eq (2 * a), ih, ml_eq a b, ← xor_two]
    congr 1
    split <;> rfl
theorem ml_xor_left (a c b : Nat) : ml (a ^^^ c) b = ml a b ^^^ ml c b := by
  induction b using half_rec with
  | h0 => rw [ml_zero, ml_zero, ml_zero]; rfl
  | h b hb ih =>
    rw [ml_eq (a ^^^ c), ih, ml_eq a b, ml_eq c b, ← xor_two, xor_mid]
    congr 1
    split
    · rfl
    · rfl
theorem ml_one_left (b : Nat) : ml 1 b = b := by
  induction b using half_rec with
  | h0 => exact ml_zero 1
  | h b hb ih =>
    rw [ml_eq, ih]
    have e : (if b % 2 = 1 then 1 else 0) = b % 2 := by split <;> omega
    rw [e]
    exact xor_parts b
theorem ml_left (a b : Nat) : ml a b = (if a % 2 = 1 then b else 0) ^^^ 2 * ml (a / 2) b := by
  conv => lhs; rw [← xor_parts a]
  rw [ml_xor_left, ml_two_left]
  congr 1
  split
  · rename_i h; rw [h, ml_one_left]
  · rename_i h; rw [show a % 2 = 0 by omega, ml_zero_left]
theorem ml_comm (a b : Nat) : ml a b = ml b a := by
  induction a using half_rec with
  | h0 => rw [ml_zero_left, ml_zero]
  | h a ha ih => rw [ml_left, ih, ← ml_eq]
theorem ml_one (a : Nat) : ml a 1 = a := by rw [ml_comm, ml_one_left]
theorem ml_two_right (a b : Nat) : ml a (2 * b) = 2 * ml a b := by rw [ml_comm, ml_two_left, ml_comm]
theorem ml_xor_right (a b c : Nat) : ml a (b ^^^ c) = ml a b ^^^ ml a c := by rw [ml_comm, ml_xor_left, ml_comm b, ml_comm c]
theorem ml_assoc (a b c : Nat) : ml (ml a b) c = ml a (ml b c) := by
  induction c using half_rec with
  | h0 => rw [ml_zero, ml_zero, ml_zero]
  | h c hc ih =>
    rw [ml_eq (ml a b), ih, ml_eq b c, ml_xor_right, ml_two_right]
    congr 1
    split
    · rfl
    · rw [ml_zero]
theorem ml_pow (a : Nat) : ∀ k : Nat, ml a (2 ^ k) = a * 2 ^ k
  | 0 => by rw [Nat.pow_zero, ml_one, Nat.mul_one]
  | k + 1 => by
    rw [Nat.pow_succ, Nat.mul_comm (2 ^ k) 2, ml_two_right, ml_pow a k, Nat.mul_left_comm]
theorem bl_ml {a b : Nat} (ha : a ≠ 0) (hb : b ≠ 0) : bl (ml a b) + 1 = bl a + bl b ∧ ml a b ≠ 0 := by
  induction b using half_rec with
  | h0 => exact absurd rfl hb
  | h b hb2 ih =>
    have pa := bl_pos ha
    by_cases h1 : b / 2 = 0
    · have : b = 1 := by omega
      subst this
      rw [ml_one]
      exact ⟨rfl, ha⟩
    · obtain ⟨i1, i2⟩ := ih h1
      have hh := bl_half b
      have p2 := bl_pos h1
      have t := bl_two i2
      rw [ml_eq]
      have e : bl ((if b % 2 = 1 then a else 0) ^^^ 2 * ml a (b / 2)) = bl (2 * ml a (b / 2)) := by
        rw [Nat.xor_comm]
        refine bl_xor_top ?_
        split
        · omega
        · rw [bl_zero]; omega
      refine ⟨by rw [e]; omega, fun z => ?_⟩
      rw [z, bl_zero] at e
      omega
/-! quotient and rest -/
theorem div_unique {o q r q' r' : Nat} (ho : o ≠ 0) (h : ml o q ^^^ r = ml o q' ^^^ r') (h1 : bl r < bl o) (h2 : bl r' < bl o) : q = q' ∧ r = r' := by
  have e : ml o (q ^^^ q') = r ^^^ r' := by
    rw [ml_xor_right]
    refine xor_eq ?_
    rw [xor_mid, h, Nat.xor_self]
  have l : bl (r ^^^ r') < bl o := by
    have := bl_xor_le (k := bl o - 1) (show bl r ≤ _ by omega) (show bl r' ≤ _ by omega)
    have := bl_pos ho
    omega
  by_cases hq : q ^^^ q' = 0
  · rw [hq, ml_zero] at e
    exact ⟨xor_eq hq, xor_eq e.symm⟩
  · have := (bl_ml ho hq).1
    have := bl_pos hq
    rw [e] at *
    omega
def dvF : Nat → Nat → Nat → Nat × Nat
  | 0, a, _ => (0, a)
  | n + 1, a, o => if bl a < bl o then (0, a) else ((dvF n (a ^^^ o * 2 ^ (bl a - bl o)) o).1 ^^^ 2 ^ (bl a - bl o), (dvF n (a ^^^ o * 2 ^ (bl a - bl o)) o).2)
def dv (a o : Nat) : Nat × Nat := dvF (bl a + 1) a o
theorem step_lt {a o : Nat} (ho : o ≠ 0) (h : ¬ bl a < bl o) : bl (a ^^^ o * 2 ^ (bl a - bl o)) < bl a := by
  have p := bl_pos ho
  refine bl_xor_lt ?_ fun z => by rw [z, bl_zero] at h; omega
  rw [bl_shift ho]
  omega
theorem dvF_ok {o : Nat} (ho : o ≠ 0) : ∀ (n a : Nat), bl a < n → a = ml o (dvF n a o).1 ^^^ (dvF n a o).2 ∧ bl (dvF n a o).2 < bl o
  | 0, a, h => absurd h (Nat.not_lt_zero _)
  | n + 1, a, h => by
    unfold dvF
    split
    · rename_i hl
      exact ⟨by rw [ml_zero, Nat.zero_xor], hl⟩
    · rename_i hl
      obtain ⟨i1, i2⟩ := dvF_ok ho n (a ^^^ o * 2 ^ (bl a - bl o)) (by have := step_lt ho hl; omega)
      refine ⟨?_, i2⟩
      dsimp only
      rw [ml_xor_right, ml_pow, Nat.xor_assoc, Nat.xor_comm (o * _), ← Nat.xor_assoc, ← i1, xor_cancel2]
theorem dv_ok {o : Nat} (a : Nat) (ho : o ≠ 0) : a = ml o (dv a o).1 ^^^ (dv a o).2 ∧ bl (dv a o).2 < bl o := dvF_ok ho _ _ (Nat.lt_succ_self _)
theorem dv_eq {a o q r : Nat} (ho : o ≠ 0) (h : a = ml o q ^^^ r) (h1 : bl r < bl o) : (q, r) = dv a o := by
  obtain ⟨g1, g2⟩ := dv_ok a ho
  obtain ⟨e1, e2⟩ := div_unique ho (h.symm.trans g1) h1 g2
  exact Prod.ext e1 e2
def rm (a o : Nat) : Nat := (dv a o).2
theorem rm_lt {o : Nat} (a : Nat) (ho : o ≠ 0) : bl (rm a o) < bl o := (dv_ok a ho).2
/-! like, over o -/
def Cg (o a b : Nat) : Prop := ∃ q, a ^^^ b = ml o q
theorem Cg.refl (o a : Nat) : Cg o a a := ⟨0, by rw [Nat.xor_self, ml_zero]⟩
theorem Cg.symm {o a b : Nat} (h : Cg o a b) : Cg o b a := let ⟨q, e⟩ := h; ⟨q, by rw [Nat.xor_comm]; exact e⟩
theorem Cg.trans {o a b c : Nat} (h : Cg o a b) (h2 : Cg o b c) : Cg o a c := by
  obtain ⟨q, e⟩ := h
  obtain ⟨q2, e2⟩ := h2
  refine ⟨q ^^^ q2, ?_⟩
  rw [ml_xor_right, ← e, ← e2, Nat.xor_assoc, xor_cancel]
theorem Cg.mul {o a b : Nat} (h : Cg o a b) (c : Nat) : Cg o (ml a c) (ml b c) := by
  obtain ⟨q, e⟩ := h
  exact ⟨ml q c, by rw [← ml_xor_left, e, ml_assoc]⟩
theorem Cg.mul2 {o a b c d : Nat} (h : Cg o a b) (h2 : Cg o c d) : Cg o (ml a c) (ml b d) := (h.mul c).trans (by rw [ml_comm b c, ml_comm b d]; exact h2.mul b)
theorem Cg.add {o a b c d : Nat} (h : Cg o a b) (h2 : Cg o c d) : Cg o (a ^^^ c) (b ^^^ d) := by
  obtain ⟨q, e⟩ := h
  obtain ⟨q2, e2⟩ := h2
  exact ⟨q ^^^ q2, by rw [ml_xor_right, xor_mid, e, e2]⟩
theorem Cg.rm {o : Nat} (a : Nat) (ho : o ≠ 0) : Cg o (rm a o) a := by
  obtain ⟨g1, _⟩ := dv_ok a ho
  refine ⟨(dv a o).1, ?_⟩
  have e : a ^^^ GF.rm a o = ml o (dv a o).1 := (congrArg (· ^^^ (dv a o).2) g1).trans (xor_cancel2 _ _)
  rw [Nat.xor_comm]
  exact e
theorem Cg.eq {o a b : Nat} (ho : o ≠ 0) (h : Cg o a b) (h1 : bl a < bl o) (h2 : bl b < bl o) : a = b := by
  obtain ⟨q, e⟩ := h
  refine (div_unique (q := q) (q' := 0) (r := b) (r' := a) ho ?_ h2 h1).2.symm
  rw [ml_zero, Nat.zero_xor, ← e, xor_cancel2]
theorem rm_cg {o a b : Nat} (ho : o ≠ 0) (h : Cg o a b) : GF.rm a o = GF.rm b o := Cg.eq ho (((Cg.rm a ho).trans h).trans (Cg.rm b ho).symm) (rm_lt a ho) (rm_lt b ho)
theorem rm_eq {o a r : Nat} (ho : o ≠ 0) (h : Cg o r a) (h1 : bl r < bl o) : r = GF.rm a o := Cg.eq ho (h.trans (Cg.rm a ho).symm) h1 (rm_lt a ho)
/-! the common divisor -/
def gcF : Nat → Nat → Nat → Nat
  | 0, a, _ => a
  | n + 1, a, b => if b = 0 then a else gcF n b (rm a b)
theorem gcF_eq : ∀ (n m a b : Nat), bl b < n → bl b < m → gcF n a b = gcF m a b
  | 0, _, _, _, h, _ => absurd h (Nat.not_lt_zero _)
  | _ + 1, 0, _, _, _, h => absurd h (Nat.not_lt_zero _)
  | n + 1, m + 1, a, b, h, h2 => by
    unfold gcF
    split
    · rfl
    · rename_i hb
      have := rm_lt a hb
      exact gcF_eq n m b (rm a b) (by omega) (by omega)
def gc (a b : Nat) : Nat := gcF (bl b + 1) a b
theorem gc_zero (a : Nat) : gc a 0 = a := rfl
theorem gc_eq {a b : Nat} (hb : b ≠ 0) : gc a b = gc b (rm a b) := by
  unfold gc
  conv => lhs; unfold gcF
  rw [if_neg hb]
  have := rm_lt a hb
  exact gcF_eq _ _ _ _ (by omega) (by omega)
/-! the weight, the mirrored one -/
def wt (p k : Nat) : Nat := ((List.range k).map fun i => p / 2 ^ i % 2).sum
theorem wt_succ (p k : Nat) : wt p (k + 1) = wt p k + p / 2 ^ k % 2 := by
  unfold wt
  rw [List.range_succ, List.map_append, List.sum_append]
  simp
theorem wt_more {p k : Nat} (h : bl p ≤ k) : ∀ j : Nat, wt p (k + j) = wt p k
  | 0 => rfl
  | j + 1 => by
    rw [← Nat.add_assoc, wt_succ, wt_more h j]
    have : p < 2 ^ (k + j) := bl_le.mp (by omega)
    rw [Nat.div_eq_of_lt this, Nat.zero_mod, Nat.add_zero]
theorem wt_eq {p k : Nat} (h : bl p ≤ k) : wt p k = wt p (bl p) := by
  have := wt_more (Nat.le_refl (bl p)) (k - bl p)
  rw [show bl p + (k - bl p) = k by omega] at this
  exact this
def mv (p : Nat) : Nat → Nat
  | 0 => 0
  | k + 1 => 2 * mv p k + p / 2 ^ k % 2
def ms (p k : Nat) : Nat := (((List.range k).filter fun i => decide (p / 2 ^ i % 2 = 1)).map fun i => 2 ^ (k - 1 - i)).sum
theorem sum_two (f : Nat → Nat) : ∀ l : List Nat, (l.map fun i => 2 * f i).sum = 2 * (l.map f).sum
  | [] => rfl
  | x :: l => by rw [List.map_cons, List.map_cons, List.sum_cons, List.sum_cons, sum_two f l, Nat.mul_add]
theorem ms_eq (p : Nat) : ∀ k : Nat, ms p k = mv p k
  | 0 => rfl
  | k + 1 => by
    have e : (((List.range k).filter fun i => decide (p / 2 ^ i % 2 = 1)).map fun i => 2 ^ (k + 1 - 1 - i)).sum = 2 * ms p k := by
      unfold ms
      rw [← sum_two]
      congr 1
      refine List.map_congr_left fun i hi => ?_
      have := List.mem_range.mp (List.mem_filter.mp hi).1
      rw [← Nat.pow_succ']
      congr 1
      omega
    show ((((List.range (k + 1)).filter fun i => decide (p / 2 ^ i % 2 = 1)).map fun i => 2 ^ (k + 1 - 1 - i)).sum) = 2 * mv p k + p / 2 ^ k % 2
    rw [List.range_succ, List.filter_append, List.map_append, List.sum_append, e, ms_eq p k]
    congr 1
    by_cases h : p / 2 ^ k % 2 = 1
    · simp [List.filter_cons, h]
    · simp [List.filter_cons, h]
      omega
end GF
set_option maxHeartbeats 400000
namespace K00
open PySem PySem.Spec PyProof.Rows L2 EV
def top (i : Nat) : Stmt := PySem.Challenge.pw_errseen_k00_polynomials_over_bits.main.body.getD i (.Pass ⟨0, 0, 0, 0⟩)
/-- the errors by number -/
def kb (j c : Nat) : Bool := (if c < 6 then c else 6) == j
def kn (c : Nat) : Str := ([("!poly" : Str), ("!check" : Str), ("!text" : Str), ("!paper" : Str), ("!number" : Str), ("!none" : Str), ("!large" : Str)] : List Str).getD (if c < 6 then c else 6) "!large"
abbrev s__law_number : Stmt := top 30
theorem sc__law_number : FnScope ["cell"] ["cell"] (defScope s__law_number) := ⟨rfl, rfl, rfl, by decide +kernel, rfl, by decide +kernel, by decide +kernel⟩
abbrev s__law_draws : Stmt := top 31
theorem sc__law_draws : FnScope ["script", "draws", "cell", "rest", "k", "once", "twice"] ["script"] (defScope s__law_draws) := ⟨rfl, rfl, rfl, by decide +kernel, rfl, by decide +kernel, by decide +kernel⟩
abbrev s__law_next : Stmt := top 33
theorem sc__law_next : FnScope ["draws"] ["draws"] (defScope s__law_next) := ⟨rfl, rfl, rfl, by decide +kernel, rfl, by decide +kernel, by decide +kernel⟩
abbrev s__law_more : Stmt := top 34
theorem sc__law_more : FnScope ["draws", "many", "seed", "more", "k"] ["draws", "many"] (defScope s__law_more) := ⟨rfl, rfl, rfl, by decide +kernel, rfl, by decide +kernel, by decide +kernel⟩
abbrev s__law_power : Stmt := top 39
theorem sc__law_power : FnScope ["at", "found", "turn"] ["at"] (defScope s__law_power) := ⟨rfl, rfl, rfl, by decide +kernel, rfl, by decide +kernel, by decide +kernel⟩
abbrev s__law_odd : Stmt := top 42
theorem sc__law_odd : FnScope ["draws", "most", "size"] ["draws", "most"] (defScope s__law_odd) := ⟨rfl, rfl, rfl, by decide +kernel, rfl, by decide +kernel, by decide +kernel⟩
abbrev s__law_any : Stmt := top 43
theorem sc__law_any : FnScope ["draws"] ["draws"] (defScope s__law_any) := ⟨rfl, rfl, rfl, by decide +kernel, rfl, by decide +kernel, by decide +kernel⟩
abbrev s__law_degree : Stmt := top 37
theorem sc__law_degree : FnScope ["poly", "size", "at"] ["poly"] (defScope s__law_degree) := ⟨rfl, rfl, rfl, by decide +kernel, rfl, by decide +kernel, by decide +kernel⟩
abbrev s__law_weight : Stmt := top 45
theorem sc__law_weight : FnScope ["poly", "at"] ["poly"] (defScope s__law_weight) := ⟨rfl, rfl, rfl, by decide +kernel, rfl, by decide +kernel, by decide +kernel⟩
abbrev s__law_times : Stmt := top 38
theorem sc__law_times : FnScope ["one", "other", "found", "at"] ["one", "other"] (defScope s__law_times) := ⟨rfl, rfl, rfl, by decide +kernel, rfl, by decide +kernel, by decide +kernel⟩
abbrev s_check_poly : Stmt := top 12
theorem sc_check_poly : FnScope ["poly"] ["poly"] (defScope s_check_poly) := ⟨rfl, rfl, rfl, by decide +kernel, rfl, by decide +kernel, by decide +kernel⟩
abbrev s_degree_of : Stmt := top 14
theorem sc_degree_of : FnScope ["poly"] ["poly"] (defScope s_degree_of) := ⟨rfl, rfl, rfl, by decide +kernel, rfl, by decide +kernel, by decide +kernel⟩
abbrev s_divided_of : Stmt := top 20
theorem sc_divided_of : FnScope ["poly", "other", "part", "low", "shift"] ["poly", "other"] (defScope s_divided_of) := ⟨rfl, rfl, rfl, by decide +kernel, rfl, by decide +kernel, by decide +kernel⟩
abbrev s_rest_of : Stmt := top 21
theorem sc_rest_of : FnScope ["poly", "other"] ["poly", "other"] (defScope s_rest_of) := ⟨rfl, rfl, rfl, by decide +kernel, rfl, by decide +kernel, by decide +kernel⟩
abbrev s_product_of : Stmt := top 18
theorem sc_product_of : FnScope ["one", "other", "found"] ["one", "other"] (defScope s_product_of) := ⟨rfl, rfl, rfl, by decide +kernel, rfl, by decide +kernel, by decide +kernel⟩
abbrev s_power_by : Stmt := top 25
theorem sc_power_by : FnScope ["n", "poly", "found", "base"] ["n", "poly"] (defScope s_power_by) := ⟨rfl, rfl, rfl, by decide +kernel, rfl, by decide +kernel, by decide +kernel⟩
abbrev s_power_rest : Stmt := top 26
theorem sc_power_rest : FnScope ["n", "poly"] ["n", "poly"] (defScope s_power_rest) := ⟨rfl, rfl, rfl, by decide +kernel, rfl, by decide +kernel, by decide +kernel⟩
abbrev s__law_flat : Stmt := top 32
theorem sc__law_flat : FnScope ["rows", "found", "row"] ["rows"] (defScope s__law_flat) := ⟨rfl, rfl, rfl, by decide +kernel, rfl, by decide +kernel, by decide +kernel⟩
abbrev s__law_mirrored : Stmt := top 46
theorem sc__law_mirrored : FnScope ["poly", "size", "at"] ["poly"] (defScope s__law_mirrored) := ⟨rfl, rfl, rfl, by decide +kernel, rfl, by decide +kernel, by decide +kernel⟩
abbrev s__law_split : Stmt := top 40
theorem sc__law_split : FnScope ["poly", "other", "part", "low", "turn", "shift"] ["poly", "other"] (defScope s__law_split) := ⟨rfl, rfl, rfl, by decide +kernel, rfl, by decide +kernel, by decide +kernel⟩
abbrev s__law_rest : Stmt := top 41
theorem sc__law_rest : FnScope ["poly", "other"] ["poly", "other"] (defScope s__law_rest) := ⟨rfl, rfl, rfl, by decide +kernel, rfl, by decide +kernel, by decide +kernel⟩
abbrev s__law_powered : Stmt := top 47
theorem sc__law_powered : FnScope ["n", "poly", "here", "turn"] ["n", "poly"] (defScope s__law_powered) := ⟨rfl, rfl, rfl, by decide +kernel, rfl, by decide +kernel, by decide +kernel⟩
abbrev s__law_kind : Stmt := top 36
theorem sc__law_kind : FnScope ["error", "names", "found"] ["error"] (defScope s__law_kind) := ⟨rfl, rfl, rfl, by decide +kernel, rfl, by decide +kernel, by decide +kernel⟩
abbrev s_product : Stmt := top 19
theorem sc_product : FnScope ["one", "other"] ["one", "other"] (defScope s_product) := ⟨rfl, rfl, rfl, by decide +kernel, rfl, by decide +kernel, by decide +kernel⟩
abbrev s_check_other : Stmt := top 13
theorem sc_check_other : FnScope ["poly"] ["poly"] (defScope s_check_other) := ⟨rfl, rfl, rfl, by decide +kernel, rfl, by decide +kernel, by decide +kernel⟩
abbrev s_divided : Stmt := top 22
theorem sc_divided : FnScope ["poly", "other"] ["poly", "other"] (defScope s_divided) := ⟨rfl, rfl, rfl, by decide +kernel, rfl, by decide +kernel, by decide +kernel⟩
abbrev s_common_of : Stmt := top 23
theorem sc_common_of : FnScope ["one", "other"] ["one", "other"] (defScope s_common_of) := ⟨rfl, rfl, rfl, by decide +kernel, rfl, by decide +kernel, by decide +kernel⟩
abbrev s_common_divisor : Stmt := top 24
theorem sc_common_divisor : FnScope ["one", "other"] ["one", "other"] (defScope s_common_divisor) := ⟨rfl, rfl, rfl, by decide +kernel, rfl, by decide +kernel, by decide +kernel⟩
abbrev s_degree : Stmt := top 15
theorem sc_degree : FnScope ["poly"] ["poly"] (defScope s_degree) := ⟨rfl, rfl, rfl, by decide +kernel, rfl, by decide +kernel, by decide +kernel⟩
abbrev s_weight_of : Stmt := top 16
theorem sc_weight_of : FnScope ["poly", "at"] ["poly"] (defScope s_weight_of) := ⟨rfl, rfl, rfl, by decide +kernel, rfl, by decide +kernel, by decide +kernel⟩
abbrev s_weight : Stmt := top 17
theorem sc_weight : FnScope ["poly"] ["poly"] (defScope s_weight) := ⟨rfl, rfl, rfl, by decide +kernel, rfl, by decide +kernel, by decide +kernel⟩
abbrev s_mirrored_of : Stmt := top 27
theorem sc_mirrored_of : FnScope ["poly", "found", "at"] ["poly"] (defScope s_mirrored_of) := ⟨rfl, rfl, rfl, by decide +kernel, rfl, by decide +kernel, by decide +kernel⟩
abbrev s_mirrored : Stmt := top 28
theorem sc_mirrored : FnScope ["poly"] ["poly"] (defScope s_mirrored) := ⟨rfl, rfl, rfl, by decide +kernel, rfl, by decide +kernel, by decide +kernel⟩
abbrev s__law_asked : Stmt := top 48
theorem sc__law_asked : FnScope ["way", "one", "other", "error"] ["way", "one", "other"] (defScope s__law_asked) := ⟨rfl, rfl, rfl, by decide +kernel, rfl, by decide +kernel, by decide +kernel⟩
abbrev s__law_common : Stmt := top 44
theorem sc__law_common : FnScope ["one", "other", "turn"] ["one", "other"] (defScope s__law_common) := ⟨rfl, rfl, rfl, by decide +kernel, rfl, by decide +kernel, by decide +kernel⟩
abbrev s_law : Stmt := top 49
theorem sc_law : FnScope ["script", "draws", "one", "other", "n", "due", "great", "top", "told", "way", "poly", "k"] ["script"] (defScope s_law) := ⟨rfl, rfl, rfl, by decide +kernel, rfl, by decide +kernel, by decide +kernel⟩
noncomputable def b__law_number : Rho → SR := mThen (mIfS (mTst (mBin gLt (mVar 0) (mC (dn 0)))) (mRet (mBin gSub (mC (dn 0)) (mVar 0))) (mNx)) (mRet (mVar 0))
noncomputable def g__law_number (as : Rho) : Out Vl := exitF as (b__law_number (pad as 1))
noncomputable def b1__law_draws : Rho → SR := mThen (mIfS (mTst (mBin gEq (mVar 3) (mC (dn 0)))) (mBrk) (mNx)) (mThen (mExpr (mMut 1 gAppend (mCons (mBin gMod (mCall gInt (mCons (mVar 3) (mNil))) (mC (dn 1000))) (mNil)))) (mSet 3 (mBin gFdiv (mVar 3) (mC (dn 1000)))))
noncomputable def b2__law_draws : Rho → SR := mThen (mSet 3 (mCallD 1 g__law_number (mCons (mVar 2) (mNil)))) (mIfS (mTst (mBin gGe (mVar 3) (mC (dn 1000000000000000000)))) (mFor (mRng1 (mCons (mC (dn 60)) (mNil))) (bName 4) b1__law_draws) (mThen (mSet 5 (mBin gMod (mCall gInt (mCons (mBin gAdd (mBin gMul (mVar 3) (mC (dn 48271))) (mC (dn 11))) (mNil))) (mC (dn 2147483647)))) (mThen (mSet 6 (mBin gMod (mCall gInt (mCons (mBin gAdd (mBin gMul (mVar 5) (mC (dn 69621))) (mVar 3)) (mNil))) (mC (dn 2147483629)))) (mExpr (mMut 1 gExtend (mCons (mLst (mCons (mBin gMod (mCall gInt (mCons (mVar 3) (mNil))) (mC (dn 1000))) (mCons (mBin gMod (mCall gInt (mCons (mVar 5) (mNil))) (mC (dn 1000))) (mCons (mBin gMod (mCall gInt (mCons (mVar 6) (mNil))) (mC (dn 1000))) (mNil))))) (mNil)))))))
noncomputable def b__law_draws : Rho → SR := mThen (mSet 1 (mLst (mNil))) (mThen (mFor (mSeq (mVar 0)) (bName 2) b2__law_draws) (mThen (mExpr (mMut 1 gReverse mNil)) (mRet (mVar 1))))
noncomputable def g__law_draws (as : Rho) : Out Vl := exitF as (b__law_draws (pad as 7))
noncomputable def b__law_next : Rho → SR := mThen (mIfS (mTru (mVar 0)) (mRet (mMut 0 gPop mNil)) (mNx)) (mRet (mC (dn 0)))
noncomputable def g__law_next (as : Rho) : Out Vl := exitF as (b__law_next (pad as 1))
noncomputable def b1__law_more : Rho → SR := mThen (mSet 2 (mBin gMod (mCall gInt (mCons (mBin gAdd (mBin gMul (mVar 2) (mC (dn 48271))) (mC (dn 12345))) (mNil))) (mC (dn 2147483647)))) (mExpr (mMut 3 gAppend (mCons (mBin gMod (mCall gInt (mCons (mBin gFdiv (mVar 2) (mC (dn 7))) (mNil))) (mC (dn 1000))) (mNil))))
noncomputable def b__law_more : Rho → SR := mThen (mSet 2 (mBin gAdd (mBin gAdd (mBin gMul (mC (dn 1000)) (mCallL 1 0 g__law_next (mCons (mVar 0) (mNil)))) (mCallL 1 0 g__law_next (mCons (mVar 0) (mNil)))) (mC (dn 1)))) (mThen (mSet 3 (mLst (mNil))) (mThen (mFor (mRng1 (mCons (mVar 1) (mNil))) (bName 4) b1__law_more) (mRet (mBin gAdd (mVar 3) (mVar 0)))))
noncomputable def g__law_more (as : Rho) : Out Vl := exitF as (b__law_more (pad as 5))
noncomputable def b1__law_power : Rho → SR := mSet 1 (mBin gMul (mC (dn 2)) (mVar 1))
noncomputable def b__law_power : Rho → SR := mThen (mSet 1 (mC (dn 1))) (mThen (mFor (mRng1 (mCons (mVar 0) (mNil))) (bName 2) b1__law_power) (mRet (mVar 1)))
noncomputable def g__law_power (as : Rho) : Out Vl := exitF as (b__law_power (pad as 3))
noncomputable def b__law_odd : Rho → SR := mThen (mSet 2 (mBin gAdd (mC (dn 1)) (mBin gMod (mCall gInt (mCons (mCallL 1 0 g__law_next (mCons (mVar 0) (mNil))) (mNil))) (mVar 1)))) (mRet (mBin gAdd (mBin gAdd (mC (dn 1)) (mCallD 1 g__law_power (mCons (mVar 2) (mNil)))) (mBin gMul (mC (dn 2)) (mBin gMod (mCall gInt (mCons (mBin gAdd (mBin gMul (mC (dn 1000)) (mCallL 1 0 g__law_next (mCons (mVar 0) (mNil)))) (mCallL 1 0 g__law_next (mCons (mVar 0) (mNil)))) (mNil))) (mCallD 1 g__law_power (mCons (mBin gSub (mVar 2) (mC (dn 1))) (mNil)))))))
noncomputable def g__law_odd (as : Rho) : Out Vl := exitF as (b__law_odd (pad as 3))
noncomputable def b__law_any : Rho → SR := mRet (mBin gMod (mCall gInt (mCons (mBin gAdd (mBin gAdd (mBin gAdd (mBin gMul (mBin gPow (mC (dn 10)) (mC (dn 9))) (mCallL 1 0 g__law_next (mCons (mVar 0) (mNil)))) (mBin gMul (mBin gPow (mC (dn 10)) (mC (dn 6))) (mCallL 1 0 g__law_next (mCons (mVar 0) (mNil))))) (mBin gMul (mC (dn 1000)) (mCallL 1 0 g__law_next (mCons (mVar 0) (mNil))))) (mCallL 1 0 g__law_next (mCons (mVar 0) (mNil)))) (mNil))) (mCallD 1 g__law_power (mCons (mBin gAdd (mC (dn 1)) (mBin gMod (mCall gInt (mCons (mCallL 1 0 g__law_next (mCons (mVar 0) (mNil))) (mNil))) (mC (dn 40)))) (mNil))))
noncomputable def g__law_any (as : Rho) : Out Vl := exitF as (b__law_any (pad as 1))
noncomputable def b1__law_degree : Rho → SR := mThen (mIfS (mTst (mBin gEq (mVar 0) (mC (dn 0)))) (mBrk) (mNx)) (mThen (mSet 0 (mBin gFdiv (mVar 0) (mC (dn 2)))) (mSet 1 (mBin gAdd (mVar 1) (mC (dn 1)))))
noncomputable def b__law_degree : Rho → SR := mThen (mSet 1 (mUn gNeg (mC (dn 1)))) (mThen (mFor (mRng1 (mCons (mC (dn 200)) (mNil))) (bName 2) b1__law_degree) (mRet (mVar 1)))
noncomputable def g__law_degree (as : Rho) : Out Vl := exitF as (b__law_degree (pad as 3))
noncomputable def b__law_weight : Rho → SR := mRet (mCall gSum (mCons (mLc (mRng1 (mCons (mC (dn 70)) (mNil))) (bName 1) (mB true) (mBin gMod (mCall gInt (mCons (mBin gFdiv (mVar 0) (mCallD 1 g__law_power (mCons (mVar 1) (mNil)))) (mNil))) (mC (dn 2))) [1]) (mNil)))
noncomputable def g__law_weight (as : Rho) : Out Vl := exitF as (b__law_weight (pad as 2))
noncomputable def b1__law_times : Rho → SR := mThen (mIfS (mTst (mBin gEq (mVar 1) (mC (dn 0)))) (mBrk) (mNx)) (mThen (mIfS (mTst (mBin gEq (mBin gMod (mCall gInt (mCons (mVar 1) (mNil))) (mC (dn 2))) (mC (dn 1)))) (mSet 2 (mBin gXor (mVar 2) (mVar 0))) (mNx)) (par2 0 1 (mCons (mBin gMul (mC (dn 2)) (mVar 0)) (mCons (mBin gFdiv (mVar 1) (mC (dn 2))) (mNil)))))
noncomputable def b__law_times : Rho → SR := mThen (mSet 2 (mC (dn 0))) (mThen (mFor (mRng1 (mCons (mC (dn 200)) (mNil))) (bName 3) b1__law_times) (mRet (mVar 2)))
noncomputable def g__law_times (as : Rho) : Out Vl := exitF as (b__law_times (pad as 4))
noncomputable def b_check_poly : Rho → SR := mIfS (mNotB (mTst (mChain gLe gLt (mC (dn 0)) (mVar 0) (mBin gShl (mC (dn 1)) (mC (dn 64)))))) (mRaise 0) (mNx)
noncomputable def g_check_poly (as : Rho) : Out Vl := exitF as (b_check_poly (pad as 1))
noncomputable def b_degree_of : Rho → SR := mRet (mBin gSub (mUn gBits (mVar 0)) (mC (dn 1)))
noncomputable def g_degree_of (as : Rho) : Out Vl := exitF as (b_degree_of (pad as 1))
noncomputable def c1_divided_of : Rho → Out Bool := mTst (mBin gGe (mCallD 1 g_degree_of (mCons (mVar 0) (mNil))) (mVar 3))
noncomputable def b2_divided_of : Rho → SR := mThen (mSet 4 (mBin gSub (mCallD 1 g_degree_of (mCons (mVar 0) (mNil))) (mVar 3))) (mThen (mAug 2 gXor (mBin gShl (mC (dn 1)) (mVar 4))) (mAug 0 gXor (mBin gShl (mVar 1) (mVar 4))))
noncomputable def b_divided_of : Rho → SR := mThen (mSet 2 (mC (dn 0))) (mThen (mSet 3 (mCallD 1 g_degree_of (mCons (mVar 1) (mNil)))) (mThen (mWhile c1_divided_of b2_divided_of) (mRet (mTup (mCons (mVar 2) (mCons (mVar 0) (mNil)))))))
noncomputable def g_divided_of (as : Rho) : Out Vl := exitF as (b_divided_of (pad as 5))
noncomputable def b_rest_of : Rho → SR := mRet (mBin gIx (mCallD 2 g_divided_of (mCons (mVar 0) (mCons (mVar 1) (mNil)))) (mC (dn 1)))
noncomputable def g_rest_of (as : Rho) : Out Vl := exitF as (b_rest_of (pad as 2))
noncomputable def c1_product_of : Rho → Out Bool := mTru (mVar 1)
noncomputable def b2_product_of : Rho → SR := mThen (mIfS (mTst (mBin gEq (mBin gMod (mVar 1) (mC (dn 2))) (mC (dn 1)))) (mAug 2 gXor (mVar 0)) (mNx)) (mThen (mAug 0 gShl (mC (dn 1))) (mAug 1 gShr (mC (dn 1))))
noncomputable def b_product_of : Rho → SR := mThen (mSet 2 (mC (dn 0))) (mThen (mWhile c1_product_of b2_product_of) (mRet (mVar 2)))
noncomputable def g_product_of (as : Rho) : Out Vl := exitF as (b_product_of (pad as 3))
noncomputable def c1_power_by : Rho → Out Bool := mTru (mVar 0)
noncomputable def b2_power_by : Rho → SR := mThen (mIfS (mTst (mBin gEq (mBin gMod (mVar 0) (mC (dn 2))) (mC (dn 1)))) (mSet 2 (mCallD 2 g_rest_of (mCons (mCallD 2 g_product_of (mCons (mVar 2) (mCons (mVar 3) (mNil)))) (mCons (mVar 1) (mNil))))) (mNx)) (mThen (mSet 3 (mCallD 2 g_rest_of (mCons (mCallD 2 g_product_of (mCons (mVar 3) (mCons (mVar 3) (mNil)))) (mCons (mVar 1) (mNil))))) (mAug 0 gFdiv (mC (dn 2))))
noncomputable def b_power_by : Rho → SR := mThen (mSet 2 (mCallD 2 g_rest_of (mCons (mC (dn 1)) (mCons (mVar 1) (mNil))))) (mThen (mSet 3 (mCallD 2 g_rest_of (mCons (mC (dn 2)) (mCons (mVar 1) (mNil))))) (mThen (mWhile c1_power_by b2_power_by) (mRet (mVar 2))))
noncomputable def g_power_by (as : Rho) : Out Vl := exitF as (b_power_by (pad as 4))
noncomputable def b_power_rest : Rho → SR := mThen (mExpr (mCallD 1 g_check_poly (mCons (mVar 1) (mNil)))) (mThen (mIfS (mTst (mBin gLt (mCallD 1 g_degree_of (mCons (mVar 1) (mNil))) (mC (dn 1)))) (mRaise 0) (mNx)) (mThen (mIfS (mNotB (mTst (mChain gLe gLe (mC (dn 0)) (mVar 0) (mC (dn 1000000000000000000000000000000))))) (mRaise 4) (mNx)) (mRet (mCallD 2 g_power_by (mCons (mVar 0) (mCons (mVar 1) (mNil)))))))
noncomputable def g_power_rest (as : Rho) : Out Vl := exitF as (b_power_rest (pad as 2))
noncomputable def b1__law_flat : Rho → SR := mExpr (mMut 1 gExtend (mCons (mVar 2) (mNil)))
noncomputable def b__law_flat : Rho → SR := mThen (mSet 1 (mLst (mNil))) (mThen (mFor (mSeq (mVar 0)) (bName 2) b1__law_flat) (mRet (mVar 1)))
noncomputable def g__law_flat (as : Rho) : Out Vl := exitF as (b__law_flat (pad as 3))
noncomputable def b__law_mirrored : Rho → SR := mThen (mSet 1 (mCallD 1 g__law_degree (mCons (mVar 0) (mNil)))) (mRet (mCall gSum (mCons (mLc (mRng1 (mCons (mBin gAdd (mVar 1) (mC (dn 1))) (mNil))) (bName 2) (mTst (mBin gEq (mBin gMod (mCall gInt (mCons (mBin gFdiv (mVar 0) (mCallD 1 g__law_power (mCons (mVar 2) (mNil)))) (mNil))) (mC (dn 2))) (mC (dn 1)))) (mCallD 1 g__law_power (mCons (mBin gSub (mVar 1) (mVar 2)) (mNil))) [2]) (mNil))))
noncomputable def g__law_mirrored (as : Rho) : Out Vl := exitF as (b__law_mirrored (pad as 3))
noncomputable def b1__law_split : Rho → SR := mThen (mSet 5 (mBin gSub (mCallD 1 g__law_degree (mCons (mVar 0) (mNil))) (mVar 3))) (mThen (mIfS (mTst (mBin gLt (mVar 5) (mC (dn 0)))) (mBrk) (mNx)) (mThen (mSet 2 (mBin gXor (mVar 2) (mCallD 1 g__law_power (mCons (mVar 5) (mNil))))) (mSet 0 (mBin gXor (mVar 0) (mBin gMul (mVar 1) (mCallD 1 g__law_power (mCons (mVar 5) (mNil))))))))
noncomputable def b__law_split : Rho → SR := mThen (par2 2 3 (mCons (mC (dn 0)) (mCons (mCallD 1 g__law_degree (mCons (mVar 1) (mNil))) (mNil)))) (mThen (mFor (mRng1 (mCons (mC (dn 200)) (mNil))) (bName 4) b1__law_split) (mRet (mLst (mCons (mVar 2) (mCons (mVar 0) (mNil))))))
noncomputable def g__law_split (as : Rho) : Out Vl := exitF as (b__law_split (pad as 6))
noncomputable def b__law_rest : Rho → SR := mRet (mBin gIx (mCallD 2 g__law_split (mCons (mVar 0) (mCons (mVar 1) (mNil)))) (mC (dn 1)))
noncomputable def g__law_rest (as : Rho) : Out Vl := exitF as (b__law_rest (pad as 2))
noncomputable def b1__law_powered : Rho → SR := mSet 2 (mCallD 2 g__law_rest (mCons (mBin gMul (mC (dn 2)) (mVar 2)) (mCons (mVar 1) (mNil))))
noncomputable def b__law_powered : Rho → SR := mThen (mSet 2 (mCallD 2 g__law_rest (mCons (mC (dn 1)) (mCons (mVar 1) (mNil))))) (mThen (mFor (mRng1 (mCons (mVar 0) (mNil))) (bName 3) b1__law_powered) (mRet (mVar 2)))
noncomputable def g__law_powered (as : Rho) : Out Vl := exitF as (b__law_powered (pad as 4))
noncomputable def b__law_kind (a : Addr) (c : Nat) : Rho → SR := mThen (mSet 1 (mLst (mCons (mC (.str "poly")) (mCons (mC (.str "check")) (mCons (mC (.str "text")) (mCons (mC (.str "paper")) (mCons (mC (.str "number")) (mCons (mC (.str "none")) (mCons (mC (.str "large")) (mNil)))))))))) (mThen (mSet 2 (mLst (mCons (mIsE 0 a (kb 0 c)) (mCons (mIsE 0 a (kb 1 c)) (mCons (mIsE 0 a (kb 2 c)) (mCons (mIsE 0 a (kb 3 c)) (mNil))))))) (mThen (mSet 2 (mBin gAdd (mVar 2) (mLst (mCons (mIsE 0 a (kb 4 c)) (mCons (mIsE 0 a (kb 5 c)) (mCons (mIsE 0 a (kb 6 c)) (mNil))))))) (mRet (mIf (mTst (mBin gEq (mRead "list" gCount (mVar 2) (mCons (mC (.bool true)) (mNil))) (mC (dn 1)))) (mBin gAdd (mC (.str "!")) (mBin gIx (mVar 1) (mRead "list" gIndex (mVar 2) (mCons (mC (.bool true)) (mNil))))) (mC (.str "!other"))))))
noncomputable def b_product : Rho → SR := mThen (mExpr (mCallD 1 g_check_poly (mCons (mVar 0) (mNil)))) (mThen (mExpr (mCallD 1 g_check_poly (mCons (mVar 1) (mNil)))) (mRet (mCallD 2 g_product_of (mCons (mVar 0) (mCons (mVar 1) (mNil))))))
noncomputable def g_product (as : Rho) : Out Vl := exitF as (b_product (pad as 2))
noncomputable def b_check_other : Rho → SR := mThen (mExpr (mCallD 1 g_check_poly (mCons (mVar 0) (mNil)))) (mIfS (mTst (mBin gEq (mVar 0) (mC (dn 0)))) (mRaise 0) (mNx))
noncomputable def g_check_other (as : Rho) : Out Vl := exitF as (b_check_other (pad as 1))
noncomputable def b_divided : Rho → SR := mThen (mExpr (mCallD 1 g_check_poly (mCons (mVar 0) (mNil)))) (mThen (mExpr (mCallD 1 g_check_other (mCons (mVar 1) (mNil)))) (mRet (mCallD 2 g_divided_of (mCons (mVar 0) (mCons (mVar 1) (mNil))))))
noncomputable def g_divided (as : Rho) : Out Vl := exitF as (b_divided (pad as 2))
noncomputable def c1_common_of : Rho → Out Bool := mTru (mVar 1)
noncomputable def b2_common_of : Rho → SR := par2 0 1 (mCons (mVar 1) (mCons (mCallD 2 g_rest_of (mCons (mVar 0) (mCons (mVar 1) (mNil)))) (mNil)))
noncomputable def b_common_of : Rho → SR := mThen (mWhile c1_common_of b2_common_of) (mRet (mVar 0))
noncomputable def g_common_of (as : Rho) : Out Vl := exitF as (b_common_of (pad as 2))
noncomputable def b_common_divisor : Rho → SR := mThen (mExpr (mCallD 1 g_check_poly (mCons (mVar 0) (mNil)))) (mThen (mExpr (mCallD 1 g_check_poly (mCons (mVar 1) (mNil)))) (mThen (mIfS (mIf (mTst (mBin gEq (mVar 0) (mC (dn 0)))) (mTst (mBin gEq (mVar 1) (mC (dn 0)))) (mB false)) (mRaise 0) (mNx)) (mRet (mCallD 2 g_common_of (mCons (mVar 0) (mCons (mVar 1) (mNil)))))))
noncomputable def g_common_divisor (as : Rho) : Out Vl := exitF as (b_common_divisor (pad as 2))
noncomputable def b_degree : Rho → SR := mThen (mExpr (mCallD 1 g_check_poly (mCons (mVar 0) (mNil)))) (mRet (mCallD 1 g_degree_of (mCons (mVar 0) (mNil))))
noncomputable def g_degree (as : Rho) : Out Vl := exitF as (b_degree (pad as 1))
noncomputable def b_weight_of : Rho → SR := mRet (mCall gSum (mCons (mLc (mRng1 (mCons (mUn gBits (mVar 0)) (mNil))) (bName 1) (mB true) (mBin gMod (mBin gShr (mVar 0) (mVar 1)) (mC (dn 2))) [1]) (mNil)))
noncomputable def g_weight_of (as : Rho) : Out Vl := exitF as (b_weight_of (pad as 2))
noncomputable def b_weight : Rho → SR := mThen (mExpr (mCallD 1 g_check_poly (mCons (mVar 0) (mNil)))) (mRet (mCallD 1 g_weight_of (mCons (mVar 0) (mNil))))
noncomputable def g_weight (as : Rho) : Out Vl := exitF as (b_weight (pad as 1))
noncomputable def b1_mirrored_of : Rho → SR := mSet 1 (mBin gAdd (mBin gMul (mC (dn 2)) (mVar 1)) (mBin gMod (mBin gShr (mVar 0) (mVar 2)) (mC (dn 2))))
noncomputable def b_mirrored_of : Rho → SR := mThen (mSet 1 (mC (dn 0))) (mThen (mFor (mRng1 (mCons (mBin gAdd (mCallD 1 g_degree_of (mCons (mVar 0) (mNil))) (mC (dn 1))) (mNil))) (bName 2) b1_mirrored_of) (mRet (mVar 1)))
noncomputable def g_mirrored_of (as : Rho) : Out Vl := exitF as (b_mirrored_of (pad as 3))
noncomputable def b_mirrored : Rho → SR := mThen (mExpr (mCallD 1 g_check_other (mCons (mVar 0) (mNil)))) (mRet (mCallD 1 g_mirrored_of (mCons (mVar 0) (mNil))))
noncomputable def g_mirrored (as : Rho) : Out Vl := exitF as (b_mirrored (pad as 1))
noncomputable def b__law_asked : Rho → SR := mTryK 3 kn (mThen (mIfS (mTst (mBin gLt (mVar 0) (mC (dn 3)))) (mRet (mSel 1 [g_degree, g_weight, g_mirrored] (mVar 0) (mCons (mVar 1) (mNil)))) (mNx)) (mRet (mSel 2 [g_product, g_divided, g_common_divisor, g_power_rest] (mBin gSub (mVar 0) (mC (dn 3))) (mCons (mVar 1) (mCons (mVar 2) (mNil))))))
noncomputable def g__law_asked (as : Rho) : Out Vl := exitF as (b__law_asked (pad as 4))
noncomputable def b1__law_common : Rho → SR := mThen (mIfS (mTst (mBin gEq (mVar 1) (mC (dn 0)))) (mBrk) (mNx)) (par2 0 1 (mCons (mVar 1) (mCons (mCallD 2 g__law_rest (mCons (mVar 0) (mCons (mVar 1) (mNil)))) (mNil))))
noncomputable def b__law_common : Rho → SR := mThen (mFor (mRng1 (mCons (mC (dn 200)) (mNil))) (bName 2) b1__law_common) (mRet (mVar 0))
noncomputable def g__law_common (as : Rho) : Out Vl := exitF as (b__law_common (pad as 3))
noncomputable def b_law : Rho → SR := mThen (mSet 1 (mCallL 1 0 g__law_draws (mCons (mVar 0) (mNil)))) (mThen (mSet 1 (mCallL 2 0 g__law_more (mCons (mVar 1) (mCons (mC (dn 80)) (mNil))))) (mThen (mIfS (mTst (mBin gNe (mCall gRepr (mCons (mLst (mCons (mCallD 2 g_product (mCons (mC (dn 11)) (mCons (mC (dn 13)) (mNil)))) (mCons (mCallD 1 g_mirrored (mCons (mC (dn 11)) (mNil))) (mCons (mCallD 2 g_divided (mCons (mC (dn 29)) (mCons (mC (dn 3)) (mNil)))) (mCons (mCallD 2 g_common_divisor (mCons (mC (dn 29)) (mCons (mC (dn 15)) (mNil)))) (mCons (mCallD 1 g_degree (mCons (mC (dn 0)) (mNil))) (mCons (mCallD 1 g_weight (mCons (mC (dn 29)) (mNil))) (mCons (mCallD 2 g_power_rest (mCons (mC (dn 7)) (mCons (mC (dn 11)) (mNil)))) (mNil))))))))) (mNil))) (mCall gRepr (mCons (mLst (mCons (mC (dn 127)) (mCons (mC (dn 13)) (mCons (mTup (mCons (mC (dn 11)) (mCons (mC (dn 0)) (mNil)))) (mCons (mC (dn 3)) (mCons (mUn gNeg (mC (dn 1))) (mCons (mC (dn 4)) (mCons (mC (dn 1)) (mNil))))))))) (mNil))))) (mRet (mC (.bool false))) (mNx)) (mThen (mAsg (mTup (mCons (mCallL 1 0 g__law_any (mCons (mVar 1) (mNil))) (mCons (mCallL 1 0 g__law_any (mCons (mVar 1) (mNil))) (mNil)))) (bTup 2 (bCons (bName 2) (bCons (bName 3) (bNil))))) (mThen (mSet 4 (mBin gMod (mCall gInt (mCons (mCallL 1 0 g__law_next (mCons (mVar 1) (mNil))) (mNil))) (mC (dn 60)))) (mThen (mSet 5 (mLst (mCons (mCallD 1 g__law_degree (mCons (mVar 2) (mNil))) (mCons (mCallD 1 g__law_weight (mCons (mVar 2) (mNil))) (mCons (mIf (mTst (mBin gEq (mVar 2) (mC (dn 0)))) (mC (.str "!poly")) (mCallD 1 g__law_mirrored (mCons (mVar 2) (mNil)))) (mCons (mCallD 2 g__law_times (mCons (mVar 2) (mCons (mVar 3) (mNil)))) (mCons (mIf (mTst (mBin gEq (mVar 3) (mC (dn 0)))) (mC (.str "!poly")) (mCall gTuple (mCons (mCallD 2 g__law_split (mCons (mVar 2) (mCons (mVar 3) (mNil)))) (mNil)))) (mNil)))))))) (mThen (mSet 5 (mBin gAdd (mVar 5) (mLst (mCons (mIf (mIf (mTst (mBin gEq (mVar 2) (mC (dn 0)))) (mTst (mBin gEq (mVar 3) (mC (dn 0)))) (mB false)) (mC (.str "!poly")) (mCallD 2 g__law_common (mCons (mVar 2) (mCons (mVar 3) (mNil))))) (mNil))))) (mThen (mExpr (mMut 5 gAppend (mCons (mIf (mTst (mBin gLt (mVar 3) (mC (dn 2)))) (mC (.str "!poly")) (mCallD 2 g__law_powered (mCons (mVar 4) (mCons (mVar 3) (mNil))))) (mNil)))) (mThen (mIfS (mTst (mBin gNe (mCall gRepr (mCons (mBin gAdd (mBin gAdd (mLc (mRng1 (mCons (mC (dn 3)) (mNil))) (bName 9) (mB true) (mCallD 3 g__law_asked (mCons (mVar 9) (mCons (mVar 2) (mCons (mC .none) (mNil))))) [9]) (mLc (mSeq (mLst (mCons (mC (dn 3)) (mCons (mC (dn 4)) (mCons (mC (dn 5)) (mNil)))))) (bName 9) (mB true) (mCallD 3 g__law_asked (mCons (mVar 9) (mCons (mVar 2) (mCons (mVar 3) (mNil))))) [9])) (mLst (mCons (mCallD 3 g__law_asked (mCons (mC (dn 6)) (mCons (mVar 4) (mCons (mVar 3) (mNil))))) (mNil)))) (mNil))) (mCall gRepr (mCons (mVar 5) (mNil))))) (mRet (mC (.bool false))) (mNx)) (mThen (mSet 6 (mCallL 2 0 g__law_odd (mCons (mVar 1) (mCons (mC (dn 10)) (mNil))))) (mThen (mIfS (mTst (mBin gNe (mCallD 2 g_power_rest (mCons (mBin gPow (mC (dn 10)) (mC (dn 30))) (mCons (mVar 6) (mNil)))) (mBin gXor (mBin gMul (mCallD 2 g_power_rest (mCons (mBin gSub (mBin gPow (mC (dn 10)) (mC (dn 30))) (mC (dn 1))) (mCons (mVar 6) (mNil)))) (mC (dn 2))) (mIf (mTst (mBin gEq (mCallD 1 g__law_degree (mCons (mBin gMul (mC (dn 2)) (mCallD 2 g_power_rest (mCons (mBin gSub (mBin gPow (mC (dn 10)) (mC (dn 30))) (mC (dn 1))) (mCons (mVar 6) (mNil))))) (mNil))) (mCallD 1 g__law_degree (mCons (mVar 6) (mNil))))) (mVar 6) (mC (dn 0)))))) (mRet (mC (.bool false))) (mNx)) (mThen (mSet 7 (mCallD 1 g__law_power (mCons (mC (dn 64)) (mNil)))) (mThen (mSet 8 (mBin gAdd (mCallD 1 g__law_flat (mCons (mLc (mRng1 (mCons (mC (dn 6)) (mNil))) (bName 9) (mB true) (mLc (mSeq (mLst (mCons (mUn gNeg (mC (dn 1))) (mCons (mVar 7) (mNil))))) (bName 10) (mB true) (mCallD 3 g__law_asked (mCons (mVar 9) (mCons (mVar 10) (mCons (mC (dn 1)) (mNil))))) [10]) [9]) (mNil))) (mCallD 1 g__law_flat (mCons (mLc (mSeq (mLst (mCons (mC (dn 3)) (mCons (mC (dn 4)) (mCons (mC (dn 5)) (mNil)))))) (bName 9) (mB true) (mLc (mSeq (mLst (mCons (mUn gNeg (mC (dn 1))) (mCons (mVar 7) (mNil))))) (bName 10) (mB true) (mCallD 3 g__law_asked (mCons (mVar 9) (mCons (mC (dn 1)) (mCons (mVar 10) (mNil))))) [10]) [9]) (mNil))))) (mThen (mSet 8 (mBin gAdd (mVar 8) (mLc (mSeq (mLst (mCons (mUn gNeg (mC (dn 1))) (mCons (mVar 7) (mCons (mC (dn 0)) (mCons (mC (dn 1)) (mNil))))))) (bName 10) (mB true) (mCallD 3 g__law_asked (mCons (mC (dn 6)) (mCons (mC (dn 5)) (mCons (mVar 10) (mNil))))) [10]))) (mRet (mAndV (mBin gEq (mVar 8) (mBin gMul (mLst (mCons (mC (.str "!poly")) (mNil))) (mC (dn 22)))) (mAndV (mBin gEq (mLc (mSeq (mLst (mCons (mUn gNeg (mC (dn 1))) (mCons (mBin gAdd (mBin gPow (mC (dn 10)) (mC (dn 30))) (mC (dn 1))) (mNil))))) (bName 11) (mB true) (mCallD 3 g__law_asked (mCons (mC (dn 6)) (mCons (mVar 11) (mCons (mC (dn 7)) (mNil))))) [11]) (mBin gMul (mLst (mCons (mC (.str "!number")) (mNil))) (mC (dn 2)))) (mBin gEq (mLc (mRng1 (mCons (mC (dn 2)) (mNil))) (bName 9) (mB true) (mCallD 3 g__law_asked (mCons (mVar 9) (mCons (mBin gSub (mVar 7) (mC (dn 1))) (mCons (mC .none) (mNil))))) [9]) (mLst (mCons (mC (dn 63)) (mCons (mC (dn 64)) (mNil)))))))))))))))))))))
noncomputable def g_law (as : Rho) : Out Vl := exitF as (b_law (pad as 12))
structure Facts (K : PySem.W.Frag) (mg : Str → Option Value) (cv : Nat → Value) : Prop where
  n_int : mg "int" = none
  n_isinstance : mg "isinstance" = none
  n_range : mg "range" = none
  n_repr : mg "repr" = none
  n_sum : mg "sum" = none
  n_tuple : mg "tuple" = none
  c_MOST_BITS : ∃ t, mg "MOST_BITS" = some (.int 64 t)
  c_MOST_POWER : ∃ t, mg "MOST_POWER" = some (.int 1000000000000000000000000000000 t)
  d__law_number : DefIn K mg "_law_number" "_law_number" s__law_number ["cell"]
  d__law_draws : DefIn K mg "_law_draws" "_law_draws" s__law_draws ["script"]
  d__law_next : DefIn K mg "_law_next" "_law_next" s__law_next ["draws"]
  d__law_more : DefIn K mg "_law_more" "_law_more" s__law_more ["draws", "many"]
  d__law_power : DefIn K mg "_law_power" "_law_power" s__law_power ["at"]
  d__law_odd : DefIn K mg "_law_odd" "_law_odd" s__law_odd ["draws", "most"]
  d__law_any : DefIn K mg "_law_any" "_law_any" s__law_any ["draws"]
  d__law_degree : DefIn K mg "_law_degree" "_law_degree" s__law_degree ["poly"]
  d__law_weight : DefIn K mg "_law_weight" "_law_weight" s__law_weight ["poly"]
  d__law_times : DefIn K mg "_law_times" "_law_times" s__law_times ["one", "other"]
  d_check_poly : DefIn K mg "check_poly" "check_poly" s_check_poly ["poly"]
  d_degree_of : DefIn K mg "degree_of" "degree_of" s_degree_of ["poly"]
  d_divided_of : DefIn K mg "divided_of" "divided_of" s_divided_of ["poly", "other"]
  d_rest_of : DefIn K mg "rest_of" "rest_of" s_rest_of ["poly", "other"]
  d_product_of : DefIn K mg "product_of" "product_of" s_product_of ["one", "other"]
  d_power_by : DefIn K mg "power_by" "power_by" s_power_by ["n", "poly"]
  d_power_rest : DefIn K mg "power_rest" "power_rest" s_power_rest ["n", "poly"]
  d__law_flat : DefIn K mg "_law_flat" "_law_flat" s__law_flat ["rows"]
  d__law_mirrored : DefIn K mg "_law_mirrored" "_law_mirrored" s__law_mirrored ["poly"]
  d__law_split : DefIn K mg "_law_split" "_law_split" s__law_split ["poly", "other"]
  d__law_rest : DefIn K mg "_law_rest" "_law_rest" s__law_rest ["poly", "other"]
  d__law_powered : DefIn K mg "_law_powered" "_law_powered" s__law_powered ["n", "poly"]
  d__law_kind : DefIn K mg "_law_kind" "_law_kind" s__law_kind ["error"]
  d_product : DefIn K mg "product" "product" s_product ["one", "other"]
  d_check_other : DefIn K mg "check_other" "check_other" s_check_other ["poly"]
  d_divided : DefIn K mg "divided" "divided" s_divided ["poly", "other"]
  d_common_of : DefIn K mg "common_of" "common_of" s_common_of ["one", "other"]
  d_common_divisor : DefIn K mg "common_divisor" "common_divisor" s_common_divisor ["one", "other"]
  d_degree : DefIn K mg "degree" "degree" s_degree ["poly"]
  d_weight_of : DefIn K mg "weight_of" "weight_of" s_weight_of ["poly"]
  d_weight : DefIn K mg "weight" "weight" s_weight ["poly"]
  d_mirrored_of : DefIn K mg "mirrored_of" "mirrored_of" s_mirrored_of ["poly"]
  d_mirrored : DefIn K mg "mirrored" "mirrored" s_mirrored ["poly"]
  d__law_asked : DefIn K mg "_law_asked" "_law_asked" s__law_asked ["way", "one", "other"]
  d__law_common : DefIn K mg "_law_common" "_law_common" s__law_common ["one", "other"]
  d_law : DefIn K mg "law" "law" s_law ["script"]
  x_NotPoly : ∃ C, cv 0 = .ref C ∧ Exn K mg "NotPoly" C ∧ ∀ c D, cv c = .ref D → PySem.W.kitOne K (.ref D) (.ref C) = some (kb 0 c)
  x_NotCheck : ∃ C, cv 1 = .ref C ∧ Exn K mg "NotCheck" C ∧ ∀ c D, cv c = .ref D → PySem.W.kitOne K (.ref D) (.ref C) = some (kb 1 c)
  x_NotText : ∃ C, cv 2 = .ref C ∧ Exn K mg "NotText" C ∧ ∀ c D, cv c = .ref D → PySem.W.kitOne K (.ref D) (.ref C) = some (kb 2 c)
  x_NotPaper : ∃ C, cv 3 = .ref C ∧ Exn K mg "NotPaper" C ∧ ∀ c D, cv c = .ref D → PySem.W.kitOne K (.ref D) (.ref C) = some (kb 3 c)
  x_BadNumber : ∃ C, cv 4 = .ref C ∧ Exn K mg "BadNumber" C ∧ ∀ c D, cv c = .ref D → PySem.W.kitOne K (.ref D) (.ref C) = some (kb 4 c)
  x_NoAnswer : ∃ C, cv 5 = .ref C ∧ Exn K mg "NoAnswer" C ∧ ∀ c D, cv c = .ref D → PySem.W.kitOne K (.ref D) (.ref C) = some (kb 5 c)
  x_TooLarge : ∃ C, cv 6 = .ref C ∧ Exn K mg "TooLarge" C ∧ ∀ c D, cv c = .ref D → PySem.W.kitOne K (.ref D) (.ref C) = some (kb 6 c)
  x_all : ∃ C, mg "CheckError" = some (.ref C) ∧ ∀ c, PySem.W.exmOne K (cv c) (.ref C) = some true
  x_c : ∀ c, ∃ D, cv c = .ref D ∧ ExcC K D
section
variable {P : Program} {w : World} {K : PySem.W.Frag} {mg : Str → Option Value} {base : Heap} {cv : Nat → Value}
theorem h__law_number (T : Facts K mg cv) : Has P w K mg base cv 1 "_law_number" 1 g__law_number := by
  refine has_mk (k := 0) (mb := b__law_number) T.d__law_number sc__law_number (fun f cdv A outer s H E hr => ?_) fun as _ => .inr rfl
  exact vb_cons (vs_if (tcmp ok_lt (v0 0) (ve_int)) (vb_one (vs_ret (ve_bin ok_sub (ve_int) (v0 0)))) (vb_nil)) (vb_one (vs_ret (v0 0)))
theorem h__law_draws (T : Facts K mg cv) : Has P w K mg base cv 2 "_law_draws" 1 g__law_draws := by
  have h_n_int := T.n_int
  have h_n_range := T.n_range
  have h_f__law_number := h__law_number (P := P) (w := w) (base := base) T
  refine has_mk (k := 1) (mb := b__law_draws) T.d__law_draws sc__law_draws (fun f cdv A outer s H E hr => ?_) fun as _ => .inr rfl
  have tk := tk_of (P := P) (w := w) (K := K) (mg := mg) (base := base) (N := ["script", "draws", "cell", "rest", "k", "once", "twice"]) (qual := "_law_draws") (sc := defScope s__law_draws) (f := f) (cd := cdv) (A := A) (outer := outer) (s := s) (H := H) (E := E)
  have hp := hp_of (P := P) (w := w) (K := K) (mg := mg) (base := base) (N := ["script", "draws", "cell", "rest", "k", "once", "twice"]) (qual := "_law_draws") (sc := defScope s__law_draws) (f := f) (cd := cdv) (A := A) (outer := outer) (s := s) (H := H) (E := E)
  have hu0 := hr.un0
  exact vb_cons (s_set 1 sc__law_draws.nd (ve_lst (va_nil))) (vb_cons (s_for hp (vi_seq (v0 0)) (g_n 2 sc__law_draws.nd) (vb_cons (s_set 3 sc__law_draws.nd (c_d (h_f__law_number) hr (by decide) tk (a_c (v0 2) (va_nil)))) (vb_one (vs_if (tcmp ok_ge (v0 3) (ve_int)) (vb_one (s_for hp (i_r1 h_n_range (a_c (ve_int) (va_nil))) (g_n 4 sc__law_draws.nd) (vb_cons (vs_if (tcmp (ok_eq hu0) (v0 3) (ve_int)) (vb_one (vs_break)) (vb_nil)) (vb_cons (s_expr (mu 1 PySem.F.slot_list_append PySem.F.type_list_append mok_append (.inl rfl) (a_c (ve_bin ok_mod (c_t cok_int bt_int h_n_int (a_c (v0 3) (va_nil))) (ve_int)) (va_nil)))) (vb_one (s_set 3 sc__law_draws.nd (ve_bin ok_fdiv (v0 3) (ve_int)))))))) (vb_cons (s_set 5 sc__law_draws.nd (ve_bin ok_mod (c_t cok_int bt_int h_n_int (a_c (ve_bin ok_add (ve_bin ok_mul (v0 3) (ve_int)) (ve_int)) (va_nil))) (ve_int))) (vb_cons (s_set 6 sc__law_draws.nd (ve_bin ok_mod (c_t cok_int bt_int h_n_int (a_c (ve_bin ok_add (ve_bin ok_mul (v0 5) (ve_int)) (v0 3)) (va_nil))) (ve_int))) (vb_one (s_expr (mu 1 PySem.F.slot_list_extend PySem.F.type_list_extend mok_extend (.inl rfl) (a_c (ve_lst (a_c (ve_bin ok_mod (c_t cok_int bt_int h_n_int (a_c (v0 3) (va_nil))) (ve_int)) (a_c (ve_bin ok_mod (c_t cok_int bt_int h_n_int (a_c (v0 5) (va_nil))) (ve_int)) (a_c (ve_bin ok_mod (c_t cok_int bt_int h_n_int (a_c (v0 6) (va_nil))) (ve_int)) (va_nil))))) (va_nil))))))))))) (vb_cons (s_expr (mu0 1 PySem.F.slot_list_reverse PySem.F.type_list_reverse mok_reverse (.inl rfl))) (vb_one (vs_ret (v0 1)))))
theorem h__law_next (T : Facts K mg cv) : Has P w K mg base cv 1 "_law_next" 1 g__law_next := by
  refine has_mk (k := 0) (mb := b__law_next) T.d__law_next sc__law_next (fun f cdv A outer s H E hr => ?_) fun as _ => .inr rfl
  exact vb_cons (vs_if (tru (v0 0)) (vb_one (vs_ret (mu0 0 PySem.F.slot_list_pop PySem.F.type_list_pop mok_pop (.inl rfl)))) (vb_nil)) (vb_one (vs_ret (ve_int)))
theorem h__law_more (T : Facts K mg cv) : Has P w K mg base cv 2 "_law_more" 2 g__law_more := by
  have h_n_int := T.n_int
  have h_n_range := T.n_range
  have h_f__law_next := h__law_next (P := P) (w := w) (base := base) T
  refine has_mk (k := 1) (mb := b__law_more) T.d__law_more sc__law_more (fun f cdv A outer s H E hr => ?_) fun as _ => .inr rfl
  have tk := tk_of (P := P) (w := w) (K := K) (mg := mg) (base := base) (N := ["draws", "many", "seed", "more", "k"]) (qual := "_law_more") (sc := defScope s__law_more) (f := f) (cd := cdv) (A := A) (outer := outer) (s := s) (H := H) (E := E)
  have hp := hp_of (P := P) (w := w) (K := K) (mg := mg) (base := base) (N := ["draws", "many", "seed", "more", "k"]) (qual := "_law_more") (sc := defScope s__law_more) (f := f) (cd := cdv) (A := A) (outer := outer) (s := s) (H := H) (E := E)
  exact vb_cons (s_set 2 sc__law_more.nd (ve_bin ok_add (ve_bin ok_add (ve_bin ok_mul (ve_int) (c_l 0 (h_f__law_next) hr (by decide) tk (a_c (v0 0) (va_nil)))) (c_l 0 (h_f__law_next) hr (by decide) tk (a_c (v0 0) (va_nil)))) (ve_int))) (vb_cons (s_set 3 sc__law_more.nd (ve_lst (va_nil))) (vb_cons (s_for hp (i_r1 h_n_range (a_c (v0 1) (va_nil))) (g_n 4 sc__law_more.nd) (vb_cons (s_set 2 sc__law_more.nd (ve_bin ok_mod (c_t cok_int bt_int h_n_int (a_c (ve_bin ok_add (ve_bin ok_mul (v0 2) (ve_int)) (ve_int)) (va_nil))) (ve_int))) (vb_one (s_expr (mu 3 PySem.F.slot_list_append PySem.F.type_list_append mok_append (.inl rfl) (a_c (ve_bin ok_mod (c_t cok_int bt_int h_n_int (a_c (ve_bin ok_fdiv (v0 2) (ve_int)) (va_nil))) (ve_int)) (va_nil))))))) (vb_one (vs_ret (ve_bin ok_add (v0 3) (v0 0))))))
theorem h__law_power (T : Facts K mg cv) : Has P w K mg base cv 1 "_law_power" 1 g__law_power := by
  have h_n_range := T.n_range
  refine has_mk (k := 0) (mb := b__law_power) T.d__law_power sc__law_power (fun f cdv A outer s H E hr => ?_) fun as _ => .inr rfl
  have hp := hp_of (P := P) (w := w) (K := K) (mg := mg) (base := base) (N := ["at", "found", "turn"]) (qual := "_law_power") (sc := defScope s__law_power) (f := f) (cd := cdv) (A := A) (outer := outer) (s := s) (H := H) (E := E)
  exact vb_cons (s_set 1 sc__law_power.nd (ve_int)) (vb_cons (s_for hp (i_r1 h_n_range (a_c (v0 0) (va_nil))) (g_n 2 sc__law_power.nd) (vb_one (s_set 1 sc__law_power.nd (ve_bin ok_mul (ve_int) (v0 1))))) (vb_one (vs_ret (v0 1))))
theorem h__law_odd (T : Facts K mg cv) : Has P w K mg base cv 2 "_law_odd" 2 g__law_odd := by
  have h_n_int := T.n_int
  have h_f__law_next := h__law_next (P := P) (w := w) (base := base) T
  have h_f__law_power := h__law_power (P := P) (w := w) (base := base) T
  refine has_mk (k := 1) (mb := b__law_odd) T.d__law_odd sc__law_odd (fun f cdv A outer s H E hr => ?_) fun as _ => .inr rfl
  have tk := tk_of (P := P) (w := w) (K := K) (mg := mg) (base := base) (N := ["draws", "most", "size"]) (qual := "_law_odd") (sc := defScope s__law_odd) (f := f) (cd := cdv) (A := A) (outer := outer) (s := s) (H := H) (E := E)
  exact vb_cons (s_set 2 sc__law_odd.nd (ve_bin ok_add (ve_int) (ve_bin ok_mod (c_t cok_int bt_int h_n_int (a_c (c_l 0 (h_f__law_next) hr (by decide) tk (a_c (v0 0) (va_nil))) (va_nil))) (v0 1)))) (vb_one (vs_ret (ve_bin ok_add (ve_bin ok_add (ve_int) (c_d (h_f__law_power) hr (by decide) tk (a_c (v0 2) (va_nil)))) (ve_bin ok_mul (ve_int) (ve_bin ok_mod (c_t cok_int bt_int h_n_int (a_c (ve_bin ok_add (ve_bin ok_mul (ve_int) (c_l 0 (h_f__law_next) hr (by decide) tk (a_c (v0 0) (va_nil)))) (c_l 0 (h_f__law_next) hr (by decide) tk (a_c (v0 0) (va_nil)))) (va_nil))) (c_d (h_f__law_power) hr (by decide) tk (a_c (ve_bin ok_sub (v0 2) (ve_int)) (va_nil))))))))
theorem h__law_any (T : Facts K mg cv) : Has P w K mg base cv 2 "_law_any" 1 g__law_any := by
  have h_n_int := T.n_int
  have h_f__law_next := h__law_next (P := P) (w := w) (base := base) T
  have h_f__law_power := h__law_power (P := P) (w := w) (base := base) T
  refine has_mk (k := 1) (mb := b__law_any) T.d__law_any sc__law_any (fun f cdv A outer s H E hr => ?_) fun as _ => .inr rfl
  have tk := tk_of (P := P) (w := w) (K := K) (mg := mg) (base := base) (N := ["draws"]) (qual := "_law_any") (sc := defScope s__law_any) (f := f) (cd := cdv) (A := A) (outer := outer) (s := s) (H := H) (E := E)
  exact vb_one (vs_ret (ve_bin ok_mod (c_t cok_int bt_int h_n_int (a_c (ve_bin ok_add (ve_bin ok_add (ve_bin ok_add (ve_bin ok_mul (ve_bin ok_pow (ve_int) (ve_int)) (c_l 0 (h_f__law_next) hr (by decide) tk (a_c (v0 0) (va_nil)))) (ve_bin ok_mul (ve_bin ok_pow (ve_int) (ve_int)) (c_l 0 (h_f__law_next) hr (by decide) tk (a_c (v0 0) (va_nil))))) (ve_bin ok_mul (ve_int) (c_l 0 (h_f__law_next) hr (by decide) tk (a_c (v0 0) (va_nil))))) (c_l 0 (h_f__law_next) hr (by decide) tk (a_c (v0 0) (va_nil)))) (va_nil))) (c_d (h_f__law_power) hr (by decide) tk (a_c (ve_bin ok_add (ve_int) (ve_bin ok_mod (c_t cok_int bt_int h_n_int (a_c (c_l 0 (h_f__law_next) hr (by decide) tk (a_c (v0 0) (va_nil))) (va_nil))) (ve_int))) (va_nil)))))
theorem h__law_degree (T : Facts K mg cv) : Has P w K mg base cv 1 "_law_degree" 1 g__law_degree := by
  have h_n_range := T.n_range
  refine has_mk (k := 0) (mb := b__law_degree) T.d__law_degree sc__law_degree (fun f cdv A outer s H E hr => ?_) fun as _ => .inr rfl
  have hp := hp_of (P := P) (w := w) (K := K) (mg := mg) (base := base) (N := ["poly", "size", "at"]) (qual := "_law_degree") (sc := defScope s__law_degree) (f := f) (cd := cdv) (A := A) (outer := outer) (s := s) (H := H) (E := E)
  have hu0 := hr.un0
  exact vb_cons (s_set 1 sc__law_degree.nd (ve_neg (ve_int))) (vb_cons (s_for hp (i_r1 h_n_range (a_c (ve_int) (va_nil))) (g_n 2 sc__law_degree.nd) (vb_cons (vs_if (tcmp (ok_eq hu0) (v0 0) (ve_int)) (vb_one (vs_break)) (vb_nil)) (vb_cons (s_set 0 sc__law_degree.nd (ve_bin ok_fdiv (v0 0) (ve_int))) (vb_one (s_set 1 sc__law_degree.nd (ve_bin ok_add (v0 1) (ve_int))))))) (vb_one (vs_ret (v0 1))))
theorem h__law_weight (T : Facts K mg cv) : Has P w K mg base cv 2 "_law_weight" 1 g__law_weight := by
  have h_n_int := T.n_int
  have h_n_range := T.n_range
  have h_n_sum := T.n_sum
  have h_f__law_power := h__law_power (P := P) (w := w) (base := base) T
  refine has_mk (k := 1) (mb := b__law_weight) T.d__law_weight sc__law_weight (fun f cdv A outer s H E hr => ?_) fun as _ => .inr rfl
  exact vb_one (vs_ret (c_b (cok_sum rfl) bt_sum h_n_sum (a_c (lc [("at", 1)] sc__law_weight.nd (i_r1 h_n_range (a_c (ve_int) (va_nil))) (fun _ _ _ _ _ => g_n 1 sc__law_weight.nd) (fun _ _ _ _ _ => vts_nil) (fun _ _ _ _ _ => ve_bin ok_mod (c_t cok_int bt_int h_n_int (a_c (ve_bin ok_fdiv (v1 0) (c_d (h_f__law_power) hr (by decide) takesF (a_c (v0 1) (va_nil)))) (va_nil))) (ve_int))) (va_nil))))
theorem h__law_times (T : Facts K mg cv) : Has P w K mg base cv 1 "_law_times" 2 g__law_times := by
  have h_n_int := T.n_int
  have h_n_range := T.n_range
  refine has_mk (k := 0) (mb := b__law_times) T.d__law_times sc__law_times (fun f cdv A outer s H E hr => ?_) fun as _ => .inr rfl
  have hp := hp_of (P := P) (w := w) (K := K) (mg := mg) (base := base) (N := ["one", "other", "found", "at"]) (qual := "_law_times") (sc := defScope s__law_times) (f := f) (cd := cdv) (A := A) (outer := outer) (s := s) (H := H) (E := E)
  have hu0 := hr.un0
  exact vb_cons (s_set 2 sc__law_times.nd (ve_int)) (vb_cons (s_for hp (i_r1 h_n_range (a_c (ve_int) (va_nil))) (g_n 3 sc__law_times.nd) (vb_cons (vs_if (tcmp (ok_eq hu0) (v0 1) (ve_int)) (vb_one (vs_break)) (vb_nil)) (vb_cons (vs_if (tcmp (ok_eq hu0) (ve_bin ok_mod (c_t cok_int bt_int h_n_int (a_c (v0 1) (va_nil))) (ve_int)) (ve_int)) (vb_one (s_set 2 sc__law_times.nd (ve_bin ok_xor (v0 2) (v0 0)))) (vb_nil)) (vb_one (s_par2 0 1 sc__law_times.nd (a_c (ve_bin ok_mul (ve_int) (v0 0)) (a_c (ve_bin ok_fdiv (v0 1) (ve_int)) (va_nil)))))))) (vb_one (vs_ret (v0 2))))
theorem h_check_poly (T : Facts K mg cv) : Has P w K mg base cv 1 "check_poly" 1 g_check_poly := by
  obtain ⟨_, h_c_MOST_BITS⟩ := T.c_MOST_BITS
  obtain ⟨_, h_cv_NotPoly, h_x_NotPoly, _⟩ := T.x_NotPoly
  refine has_mk (k := 0) (mb := b_check_poly) T.d_check_poly sc_check_poly (fun f cdv A outer s H E hr => ?_) fun as _ => .inr rfl
  have tk := tk_of (P := P) (w := w) (K := K) (mg := mg) (base := base) (N := ["poly"]) (qual := "check_poly") (sc := defScope s_check_poly) (f := f) (cd := cdv) (A := A) (outer := outer) (s := s) (H := H) (E := E)
  exact vb_one (vs_if (vt_not (tchn ok_le ok_lt (ve_int) (v0 0) (ve_bin ok_shl (ve_int) (ve_globI rfl h_c_MOST_BITS)))) (vb_one (s_raise 0 h_x_NotPoly h_cv_NotPoly tk)) (vb_nil))
theorem h_degree_of (T : Facts K mg cv) : Has P w K mg base cv 1 "degree_of" 1 g_degree_of := by
  refine has_mk (k := 0) (mb := b_degree_of) T.d_degree_of sc_degree_of (fun f cdv A outer s H E hr => ?_) fun as _ => .inr rfl
  exact vb_one (vs_ret (ve_bin ok_sub (bits (v0 0)) (ve_int)))
theorem h_divided_of (T : Facts K mg cv) : Has P w K mg base cv 2 "divided_of" 2 g_divided_of := by
  have h_f_degree_of := h_degree_of (P := P) (w := w) (base := base) T
  refine has_mk (k := 1) (mb := b_divided_of) T.d_divided_of sc_divided_of (fun f cdv A outer s H E hr => ?_) fun as _ => .inr rfl
  have tk := tk_of (P := P) (w := w) (K := K) (mg := mg) (base := base) (N := ["poly", "other", "part", "low", "shift"]) (qual := "divided_of") (sc := defScope s_divided_of) (f := f) (cd := cdv) (A := A) (outer := outer) (s := s) (H := H) (E := E)
  have hp := hp_of (P := P) (w := w) (K := K) (mg := mg) (base := base) (N := ["poly", "other", "part", "low", "shift"]) (qual := "divided_of") (sc := defScope s_divided_of) (f := f) (cd := cdv) (A := A) (outer := outer) (s := s) (H := H) (E := E)
  exact vb_cons (s_set 2 sc_divided_of.nd (ve_int)) (vb_cons (s_set 3 sc_divided_of.nd (c_d (h_f_degree_of) hr (by decide) tk (a_c (v0 1) (va_nil)))) (vb_cons (s_while hp (tcmp ok_ge (c_d (h_f_degree_of) hr (by decide) tk (a_c (v0 0) (va_nil))) (v0 3)) (vb_cons (s_set 4 sc_divided_of.nd (ve_bin ok_sub (c_d (h_f_degree_of) hr (by decide) tk (a_c (v0 0) (va_nil))) (v0 3))) (vb_cons (s_aug 2 sc_divided_of.nd iok_xor (ve_bin ok_shl (ve_int) (v0 4))) (vb_one (s_aug 0 sc_divided_of.nd iok_xor (ve_bin ok_shl (v0 1) (v0 4))))))) (vb_one (vs_ret (ve_tup (a_c (v0 2) (a_c (v0 0) (va_nil))))))))
theorem h_rest_of (T : Facts K mg cv) : Has P w K mg base cv 3 "rest_of" 2 g_rest_of := by
  have h_f_divided_of := h_divided_of (P := P) (w := w) (base := base) T
  refine has_mk (k := 2) (mb := b_rest_of) T.d_rest_of sc_rest_of (fun f cdv A outer s H E hr => ?_) fun as _ => .inr rfl
  have tk := tk_of (P := P) (w := w) (K := K) (mg := mg) (base := base) (N := ["poly", "other"]) (qual := "rest_of") (sc := defScope s_rest_of) (f := f) (cd := cdv) (A := A) (outer := outer) (s := s) (H := H) (E := E)
  exact vb_one (vs_ret (ve_ix (c_d (h_f_divided_of) hr (by decide) tk (a_c (v0 0) (a_c (v0 1) (va_nil)))) (ve_int) (fun _ _ => rfl)))
theorem h_product_of (T : Facts K mg cv) : Has P w K mg base cv 1 "product_of" 2 g_product_of := by
  refine has_mk (k := 0) (mb := b_product_of) T.d_product_of sc_product_of (fun f cdv A outer s H E hr => ?_) fun as _ => .inr rfl
  have hp := hp_of (P := P) (w := w) (K := K) (mg := mg) (base := base) (N := ["one", "other", "found"]) (qual := "product_of") (sc := defScope s_product_of) (f := f) (cd := cdv) (A := A) (outer := outer) (s := s) (H := H) (E := E)
  have hu0 := hr.un0
  exact vb_cons (s_set 2 sc_product_of.nd (ve_int)) (vb_cons (s_while hp (tru (v0 1)) (vb_cons (vs_if (tcmp (ok_eq hu0) (ve_bin ok_mod (v0 1) (ve_int)) (ve_int)) (vb_one (s_aug 2 sc_product_of.nd iok_xor (v0 0))) (vb_nil)) (vb_cons (s_aug 0 sc_product_of.nd iok_shl (ve_int)) (vb_one (s_aug 1 sc_product_of.nd iok_shr (ve_int)))))) (vb_one (vs_ret (v0 2))))
theorem h_power_by (T : Facts K mg cv) : Has P w K mg base cv 4 "power_by" 2 g_power_by := by
  have h_f_product_of := h_product_of (P := P) (w := w) (base := base) T
  have h_f_rest_of := h_rest_of (P := P) (w := w) (base := base) T
  refine has_mk (k := 3) (mb := b_power_by) T.d_power_by sc_power_by (fun f cdv A outer s H E hr => ?_) fun as _ => .inr rfl
  have tk := tk_of (P := P) (w := w) (K := K) (mg := mg) (base := base) (N := ["n", "poly", "found", "base"]) (qual := "power_by") (sc := defScope s_power_by) (f := f) (cd := cdv) (A := A) (outer := outer) (s := s) (H := H) (E := E)
  have hp := hp_of (P := P) (w := w) (K := K) (mg := mg) (base := base) (N := ["n", "poly", "found", "base"]) (qual := "power_by") (sc := defScope s_power_by) (f := f) (cd := cdv) (A := A) (outer := outer) (s := s) (H := H) (E := E)
  have hu0 := hr.un0
  exact vb_cons (s_set 2 sc_power_by.nd (c_d (h_f_rest_of) hr (by decide) tk (a_c (ve_int) (a_c (v0 1) (va_nil))))) (vb_cons (s_set 3 sc_power_by.nd (c_d (h_f_rest_of) hr (by decide) tk (a_c (ve_int) (a_c (v0 1) (va_nil))))) (vb_cons (s_while hp (tru (v0 0)) (vb_cons (vs_if (tcmp (ok_eq hu0) (ve_bin ok_mod (v0 0) (ve_int)) (ve_int)) (vb_one (s_set 2 sc_power_by.nd (c_d (h_f_rest_of) hr (by decide) tk (a_c (c_d (h_f_product_of) hr (by decide) tk (a_c (v0 2) (a_c (v0 3) (va_nil)))) (a_c (v0 1) (va_nil)))))) (vb_nil)) (vb_cons (s_set 3 sc_power_by.nd (c_d (h_f_rest_of) hr (by decide) tk (a_c (c_d (h_f_product_of) hr (by decide) tk (a_c (v0 3) (a_c (v0 3) (va_nil)))) (a_c (v0 1) (va_nil))))) (vb_one (s_aug 0 sc_power_by.nd iok_fdiv (ve_int)))))) (vb_one (vs_ret (v0 2)))))
theorem h_power_rest (T : Facts K mg cv) : Has P w K mg base cv 5 "power_rest" 2 g_power_rest := by
  obtain ⟨_, h_c_MOST_POWER⟩ := T.c_MOST_POWER
  have h_f_check_poly := h_check_poly (P := P) (w := w) (base := base) T
  have h_f_degree_of := h_degree_of (P := P) (w := w) (base := base) T
  have h_f_power_by := h_power_by (P := P) (w := w) (base := base) T
  obtain ⟨_, h_cv_BadNumber, h_x_BadNumber, _⟩ := T.x_BadNumber
  obtain ⟨_, h_cv_NotPoly, h_x_NotPoly, _⟩ := T.x_NotPoly
  refine has_mk (k := 4) (mb := b_power_rest) T.d_power_rest sc_power_rest (fun f cdv A outer s H E hr => ?_) fun as _ => .inr rfl
  have tk := tk_of (P := P) (w := w) (K := K) (mg := mg) (base := base) (N := ["n", "poly"]) (qual := "power_rest") (sc := defScope s_power_rest) (f := f) (cd := cdv) (A := A) (outer := outer) (s := s) (H := H) (E := E)
  exact vb_cons (s_expr (c_d (h_f_check_poly) hr (by decide) tk (a_c (v0 1) (va_nil)))) (vb_cons (vs_if (tcmp ok_lt (c_d (h_f_degree_of) hr (by decide) tk (a_c (v0 1) (va_nil))) (ve_int)) (vb_one (s_raise 0 h_x_NotPoly h_cv_NotPoly tk)) (vb_nil)) (vb_cons (vs_if (vt_not (tchn ok_le ok_le (ve_int) (v0 0) (ve_globI rfl h_c_MOST_POWER))) (vb_one (s_raise 4 h_x_BadNumber h_cv_BadNumber tk)) (vb_nil)) (vb_one (vs_ret (c_d (h_f_power_by) hr (by decide) tk (a_c (v0 0) (a_c (v0 1) (va_nil))))))))
theorem h__law_flat (T : Facts K mg cv) : Has P w K mg base cv 1 "_law_flat" 1 g__law_flat := by
  refine has_mk (k := 0) (mb := b__law_flat) T.d__law_flat sc__law_flat (fun f cdv A outer s H E hr => ?_) fun as _ => .inr rfl
  have hp := hp_of (P := P) (w := w) (K := K) (mg := mg) (base := base) (N := ["rows", "found", "row"]) (qual := "_law_flat") (sc := defScope s__law_flat) (f := f) (cd := cdv) (A := A) (outer := outer) (s := s) (H := H) (E := E)
  exact vb_cons (s_set 1 sc__law_flat.nd (ve_lst (va_nil))) (vb_cons (s_for hp (vi_seq (v0 0)) (g_n 2 sc__law_flat.nd) (vb_one (s_expr (mu 1 PySem.F.slot_list_extend PySem.F.type_list_extend mok_extend (.inl rfl) (a_c (v0 2) (va_nil)))))) (vb_one (vs_ret (v0 1))))
theorem h__law_mirrored (T : Facts K mg cv) : Has P w K mg base cv 2 "_law_mirrored" 1 g__law_mirrored := by
  have h_n_int := T.n_int
  have h_n_range := T.n_range
  have h_n_sum := T.n_sum
  have h_f__law_degree := h__law_degree (P := P) (w := w) (base := base) T
  have h_f__law_power := h__law_power (P := P) (w := w) (base := base) T
  refine has_mk (k := 1) (mb := b__law_mirrored) T.d__law_mirrored sc__law_mirrored (fun f cdv A outer s H E hr => ?_) fun as _ => .inr rfl
  have tk := tk_of (P := P) (w := w) (K := K) (mg := mg) (base := base) (N := ["poly", "size", "at"]) (qual := "_law_mirrored") (sc := defScope s__law_mirrored) (f := f) (cd := cdv) (A := A) (outer := outer) (s := s) (H := H) (E := E)
  have hu0 := hr.un0
  exact vb_cons (s_set 1 sc__law_mirrored.nd (c_d (h_f__law_degree) hr (by decide) tk (a_c (v1 0) (va_nil)))) (vb_one (vs_ret (c_b (cok_sum rfl) bt_sum h_n_sum (a_c (lc [("at", 2)] sc__law_mirrored.nd (i_r1 h_n_range (a_c (ve_bin ok_add (v1 1) (ve_int)) (va_nil))) (fun _ _ _ _ _ => g_n 2 sc__law_mirrored.nd) (fun _ _ _ _ _ => vts_one (tcmp (ok_eq hu0) (ve_bin ok_mod (c_t cok_int bt_int h_n_int (a_c (ve_bin ok_fdiv (v1 0) (c_d (h_f__law_power) hr (by decide) takesF (a_c (v0 2) (va_nil)))) (va_nil))) (ve_int)) (ve_int))) (fun _ _ _ _ _ => c_d (h_f__law_power) hr (by decide) takesF (a_c (ve_bin ok_sub (v1 1) (v0 2)) (va_nil)))) (va_nil)))))
theorem h__law_split (T : Facts K mg cv) : Has P w K mg base cv 2 "_law_split" 2 g__law_split := by
  have h_n_range := T.n_range
  have h_f__law_degree := h__law_degree (P := P) (w := w) (base := base) T
  have h_f__law_power := h__law_power (P := P) (w := w) (base := base) T
  refine has_mk (k := 1) (mb := b__law_split) T.d__law_split sc__law_split (fun f cdv A outer s H E hr => ?_) fun as _ => .inr rfl
  have tk := tk_of (P := P) (w := w) (K := K) (mg := mg) (base := base) (N := ["poly", "other", "part", "low", "turn", "shift"]) (qual := "_law_split") (sc := defScope s__law_split) (f := f) (cd := cdv) (A := A) (outer := outer) (s := s) (H := H) (E := E)
  have hp := hp_of (P := P) (w := w) (K := K) (mg := mg) (base := base) (N := ["poly", "other", "part", "low", "turn", "shift"]) (qual := "_law_split") (sc := defScope s__law_split) (f := f) (cd := cdv) (A := A) (outer := outer) (s := s) (H := H) (E := E)
  exact vb_cons (s_par2 2 3 sc__law_split.nd (a_c (ve_int) (a_c (c_d (h_f__law_degree) hr (by decide) tk (a_c (v0 1) (va_nil))) (va_nil)))) (vb_cons (s_for hp (i_r1 h_n_range (a_c (ve_int) (va_nil))) (g_n 4 sc__law_split.nd) (vb_cons (s_set 5 sc__law_split.nd (ve_bin ok_sub (c_d (h_f__law_degree) hr (by decide) tk (a_c (v0 0) (va_nil))) (v0 3))) (vb_cons (vs_if (tcmp ok_lt (v0 5) (ve_int)) (vb_one (vs_break)) (vb_nil)) (vb_cons (s_set 2 sc__law_split.nd (ve_bin ok_xor (v0 2) (c_d (h_f__law_power) hr (by decide) tk (a_c (v0 5) (va_nil))))) (vb_one (s_set 0 sc__law_split.nd (ve_bin ok_xor (v0 0) (ve_bin ok_mul (v0 1) (c_d (h_f__law_power) hr (by decide) tk (a_c (v0 5) (va_nil))))))))))) (vb_one (vs_ret (ve_lst (a_c (v0 2) (a_c (v0 0) (va_nil)))))))
theorem h__law_rest (T : Facts K mg cv) : Has P w K mg base cv 3 "_law_rest" 2 g__law_rest := by
  have h_f__law_split := h__law_split (P := P) (w := w) (base := base) T
  refine has_mk (k := 2) (mb := b__law_rest) T.d__law_rest sc__law_rest (fun f cdv A outer s H E hr => ?_) fun as _ => .inr rfl
  have tk := tk_of (P := P) (w := w) (K := K) (mg := mg) (base := base) (N := ["poly", "other"]) (qual := "_law_rest") (sc := defScope s__law_rest) (f := f) (cd := cdv) (A := A) (outer := outer) (s := s) (H := H) (E := E)
  exact vb_one (vs_ret (ve_ix (c_d (h_f__law_split) hr (by decide) tk (a_c (v0 0) (a_c (v0 1) (va_nil)))) (ve_int) (fun _ _ => rfl)))
theorem h__law_powered (T : Facts K mg cv) : Has P w K mg base cv 4 "_law_powered" 2 g__law_powered := by
  have h_n_range := T.n_range
  have h_f__law_rest := h__law_rest (P := P) (w := w) (base := base) T
  refine has_mk (k := 3) (mb := b__law_powered) T.d__law_powered sc__law_powered (fun f cdv A outer s H E hr => ?_) fun as _ => .inr rfl
  have tk := tk_of (P := P) (w := w) (K := K) (mg := mg) (base := base) (N := ["n", "poly", "here", "turn"]) (qual := "_law_powered") (sc := defScope s__law_powered) (f := f) (cd := cdv) (A := A) (outer := outer) (s := s) (H := H) (E := E)
  have hp := hp_of (P := P) (w := w) (K := K) (mg := mg) (base := base) (N := ["n", "poly", "here", "turn"]) (qual := "_law_powered") (sc := defScope s__law_powered) (f := f) (cd := cdv) (A := A) (outer := outer) (s := s) (H := H) (E := E)
  exact vb_cons (s_set 2 sc__law_powered.nd (c_d (h_f__law_rest) hr (by decide) tk (a_c (ve_int) (a_c (v0 1) (va_nil))))) (vb_cons (s_for hp (i_r1 h_n_range (a_c (v0 0) (va_nil))) (g_n 3 sc__law_powered.nd) (vb_one (s_set 2 sc__law_powered.nd (c_d (h_f__law_rest) hr (by decide) tk (a_c (ve_bin ok_mul (ve_int) (v0 2)) (a_c (v0 1) (va_nil))))))) (vb_one (vs_ret (v0 2))))
theorem gk_ok (a : Addr) (c : Nat) (as : Rho) (h : as.length = 1) : gKind kn a c as = .st ∨ exitF as (b__law_kind a c (pad as 3)) = gKind kn a c as := by
  match as, h with
  | [.no], _ => exact .inl rfl
  | [.d _], _ => exact .inl rfl
  | [.o _ _], _ => exact .inl rfl
  | [.scr _], _ => exact .inl rfl
  | [.e b], _ =>
    by_cases e : b = a
    · subst e
      refine .inr ?_
      match c with
      | 0 => simp [b__law_kind, mIsE, kb, kn, gKind, gCount, gIndex, sizeLine_eq, inOk, PyData.plain, PyData.plainAll, PyData.depth, PyData.depthAll, PyData.eqv, SeqAt.shaped, PyData.canLay0, PyData.canLayAll0, List.findIdx?_cons, atI, ixN, gAdd]; try rfl
      | 1 => simp [b__law_kind, mIsE, kb, kn, gKind, gCount, gIndex, sizeLine_eq, inOk, PyData.plain, PyData.plainAll, PyData.depth, PyData.depthAll, PyData.eqv, SeqAt.shaped, PyData.canLay0, PyData.canLayAll0, List.findIdx?_cons, atI, ixN, gAdd]; try rfl
      | 2 => simp [b__law_kind, mIsE, kb, kn, gKind, gCount, gIndex, sizeLine_eq, inOk, PyData.plain, PyData.plainAll, PyData.depth, PyData.depthAll, PyData.eqv, SeqAt.shaped, PyData.canLay0, PyData.canLayAll0, List.findIdx?_cons, atI, ixN, gAdd]; try rfl
      | 3 => simp [b__law_kind, mIsE, kb, kn, gKind, gCount, gIndex, sizeLine_eq, inOk, PyData.plain, PyData.plainAll, PyData.depth, PyData.depthAll, PyData.eqv, SeqAt.shaped, PyData.canLay0, PyData.canLayAll0, List.findIdx?_cons, atI, ixN, gAdd]; try rfl
      | 4 => simp [b__law_kind, mIsE, kb, kn, gKind, gCount, gIndex, sizeLine_eq, inOk, PyData.plain, PyData.plainAll, PyData.depth, PyData.depthAll, PyData.eqv, SeqAt.shaped, PyData.canLay0, PyData.canLayAll0, List.findIdx?_cons, atI, ixN, gAdd]; try rfl
      | 5 => simp [b__law_kind, mIsE, kb, kn, gKind, gCount, gIndex, sizeLine_eq, inOk, PyData.plain, PyData.plainAll, PyData.depth, PyData.depthAll, PyData.eqv, SeqAt.shaped, PyData.canLay0, PyData.canLayAll0, List.findIdx?_cons, atI, ixN, gAdd]; try rfl
      | c + 6 => have q : ¬ (c + 6 < 6) := by omega
                 simp [q, b__law_kind, mIsE, kb, kn, gKind, gCount, gIndex, sizeLine_eq, inOk, PyData.plain, PyData.plainAll, PyData.depth, PyData.depthAll, PyData.eqv, SeqAt.shaped, PyData.canLay0, PyData.canLayAll0, List.findIdx?_cons, atI, ixN, gAdd]; try rfl
    · exact .inl (if_neg e)
theorem h__law_kind (T : Facts K mg cv) : HasE P w K mg base cv 1 "_law_kind" (gKind kn) := by
  have h_n_isinstance := T.n_isinstance
  obtain ⟨_, _, q_NotPoly, h_k_0⟩ := T.x_NotPoly
  have h_e_NotPoly := q_NotPoly.gl
  obtain ⟨_, _, q_NotCheck, h_k_1⟩ := T.x_NotCheck
  have h_e_NotCheck := q_NotCheck.gl
  obtain ⟨_, _, q_NotText, h_k_2⟩ := T.x_NotText
  have h_e_NotText := q_NotText.gl
  obtain ⟨_, _, q_NotPaper, h_k_3⟩ := T.x_NotPaper
  have h_e_NotPaper := q_NotPaper.gl
  obtain ⟨_, _, q_BadNumber, h_k_4⟩ := T.x_BadNumber
  have h_e_BadNumber := q_BadNumber.gl
  obtain ⟨_, _, q_NoAnswer, h_k_5⟩ := T.x_NoAnswer
  have h_e_NoAnswer := q_NoAnswer.gl
  obtain ⟨_, _, q_TooLarge, h_k_6⟩ := T.x_TooLarge
  have h_e_TooLarge := q_TooLarge.gl
  refine has_mkE (mb := b__law_kind) T.d__law_kind rfl sc__law_kind (fun f cdv A outer s H E p c hr hz hd => ?_) gk_ok
  obtain ⟨Dc, hcv, hE⟩ := T.x_c c
  have hu : (A.deeper (envOfC "_law_kind" (defScope s__law_kind) s.heap.objs.size f cdv)).units + 65 < cLine := by have := hr.un; omega
  have hu0 : (A.deeper (envOfC "_law_kind" (defScope s__law_kind) s.heap.objs.size f cdv)).units + 64 < cLine := Nat.lt_trans (Nat.lt_succ_self _) hu
  exact vb_cons (s_set 1 sc__law_kind.nd (ve_lst (a_c (ve_str) (a_c (ve_str) (a_c (ve_str) (a_c (ve_str) (a_c (ve_str) (a_c (ve_str) (a_c (ve_str) (va_nil)))))))))) (vb_cons (s_set 2 sc__law_kind.nd (ve_lst (a_c (is_e 0 List.mem_cons_self hz hd hcv hE (h_k_0 c Dc hcv) h_n_isinstance h_e_NotPoly) (a_c (is_e 0 List.mem_cons_self hz hd hcv hE (h_k_1 c Dc hcv) h_n_isinstance h_e_NotCheck) (a_c (is_e 0 List.mem_cons_self hz hd hcv hE (h_k_2 c Dc hcv) h_n_isinstance h_e_NotText) (a_c (is_e 0 List.mem_cons_self hz hd hcv hE (h_k_3 c Dc hcv) h_n_isinstance h_e_NotPaper) (va_nil))))))) (vb_cons (s_set 2 sc__law_kind.nd (ve_bin ok_add (v0 2) (ve_lst (a_c (is_e 0 List.mem_cons_self hz hd hcv hE (h_k_4 c Dc hcv) h_n_isinstance h_e_BadNumber) (a_c (is_e 0 List.mem_cons_self hz hd hcv hE (h_k_5 c Dc hcv) h_n_isinstance h_e_NoAnswer) (a_c (is_e 0 List.mem_cons_self hz hd hcv hE (h_k_6 c Dc hcv) h_n_isinstance h_e_TooLarge) (va_nil))))))) (vb_one (vs_ret (ve_if (tcmp (ok_eq hu0) (ve_read PySem.F.plainAttrs_list PySem.F.slot_list_count PySem.F.type_list_count (mrd_count hu0) (v0 2) (a_c (ve_bl) (va_nil))) (ve_int)) (ve_bin ok_add (ve_str) (ve_ix (v0 1) (ve_read PySem.F.plainAttrs_list PySem.F.slot_list_index PySem.F.type_list_index (mrd_index hu) (v0 2) (a_c (ve_bl) (va_nil))) (fun _ _ => rfl))) (ve_str))))))
theorem h_product (T : Facts K mg cv) : Has P w K mg base cv 2 "product" 2 g_product := by
  have h_f_check_poly := h_check_poly (P := P) (w := w) (base := base) T
  have h_f_product_of := h_product_of (P := P) (w := w) (base := base) T
  refine has_mk (k := 1) (mb := b_product) T.d_product sc_product (fun f cdv A outer s H E hr => ?_) fun as _ => .inr rfl
  have tk := tk_of (P := P) (w := w) (K := K) (mg := mg) (base := base) (N := ["one", "other"]) (qual := "product") (sc := defScope s_product) (f := f) (cd := cdv) (A := A) (outer := outer) (s := s) (H := H) (E := E)
  exact vb_cons (s_expr (c_d (h_f_check_poly) hr (by decide) tk (a_c (v0 0) (va_nil)))) (vb_cons (s_expr (c_d (h_f_check_poly) hr (by decide) tk (a_c (v0 1) (va_nil)))) (vb_one (vs_ret (c_d (h_f_product_of) hr (by decide) tk (a_c (v0 0) (a_c (v0 1) (va_nil)))))))
theorem h_check_other (T : Facts K mg cv) : Has P w K mg base cv 2 "check_other" 1 g_check_other := by
  have h_f_check_poly := h_check_poly (P := P) (w := w) (base := base) T
  obtain ⟨_, h_cv_NotPoly, h_x_NotPoly, _⟩ := T.x_NotPoly
  refine has_mk (k := 1) (mb := b_check_other) T.d_check_other sc_check_other (fun f cdv A outer s H E hr => ?_) fun as _ => .inr rfl
  have tk := tk_of (P := P) (w := w) (K := K) (mg := mg) (base := base) (N := ["poly"]) (qual := "check_other") (sc := defScope s_check_other) (f := f) (cd := cdv) (A := A) (outer := outer) (s := s) (H := H) (E := E)
  have hu0 := hr.un0
  exact vb_cons (s_expr (c_d (h_f_check_poly) hr (by decide) tk (a_c (v0 0) (va_nil)))) (vb_one (vs_if (tcmp (ok_eq hu0) (v0 0) (ve_int)) (vb_one (s_raise 0 h_x_NotPoly h_cv_NotPoly tk)) (vb_nil)))
theorem h_divided (T : Facts K mg cv) : Has P w K mg base cv 3 "divided" 2 g_divided := by
  have h_f_check_other := h_check_other (P := P) (w := w) (base := base) T
  have h_f_check_poly := h_check_poly (P := P) (w := w) (base := base) T
  have h_f_divided_of := h_divided_of (P := P) (w := w) (base := base) T
  refine has_mk (k := 2) (mb := b_divided) T.d_divided sc_divided (fun f cdv A outer s H E hr => ?_) fun as _ => .inr rfl
  have tk := tk_of (P := P) (w := w) (K := K) (mg := mg) (base := base) (N := ["poly", "other"]) (qual := "divided") (sc := defScope s_divided) (f := f) (cd := cdv) (A := A) (outer := outer) (s := s) (H := H) (E := E)
  exact vb_cons (s_expr (c_d (h_f_check_poly) hr (by decide) tk (a_c (v0 0) (va_nil)))) (vb_cons (s_expr (c_d (h_f_check_other) hr (by decide) tk (a_c (v0 1) (va_nil)))) (vb_one (vs_ret (c_d (h_f_divided_of) hr (by decide) tk (a_c (v0 0) (a_c (v0 1) (va_nil)))))))
theorem h_common_of (T : Facts K mg cv) : Has P w K mg base cv 4 "common_of" 2 g_common_of := by
  have h_f_rest_of := h_rest_of (P := P) (w := w) (base := base) T
  refine has_mk (k := 3) (mb := b_common_of) T.d_common_of sc_common_of (fun f cdv A outer s H E hr => ?_) fun as _ => .inr rfl
  have tk := tk_of (P := P) (w := w) (K := K) (mg := mg) (base := base) (N := ["one", "other"]) (qual := "common_of") (sc := defScope s_common_of) (f := f) (cd := cdv) (A := A) (outer := outer) (s := s) (H := H) (E := E)
  have hp := hp_of (P := P) (w := w) (K := K) (mg := mg) (base := base) (N := ["one", "other"]) (qual := "common_of") (sc := defScope s_common_of) (f := f) (cd := cdv) (A := A) (outer := outer) (s := s) (H := H) (E := E)
  exact vb_cons (s_while hp (tru (v0 1)) (vb_one (s_par2 0 1 sc_common_of.nd (a_c (v0 1) (a_c (c_d (h_f_rest_of) hr (by decide) tk (a_c (v0 0) (a_c (v0 1) (va_nil)))) (va_nil)))))) (vb_one (vs_ret (v0 0)))
theorem h_common_divisor (T : Facts K mg cv) : Has P w K mg base cv 5 "common_divisor" 2 g_common_divisor := by
  have h_f_check_poly := h_check_poly (P := P) (w := w) (base := base) T
  have h_f_common_of := h_common_of (P := P) (w := w) (base := base) T
  obtain ⟨_, h_cv_NotPoly, h_x_NotPoly, _⟩ := T.x_NotPoly
  refine has_mk (k := 4) (mb := b_common_divisor) T.d_common_divisor sc_common_divisor (fun f cdv A outer s H E hr => ?_) fun as _ => .inr rfl
  have tk := tk_of (P := P) (w := w) (K := K) (mg := mg) (base := base) (N := ["one", "other"]) (qual := "common_divisor") (sc := defScope s_common_divisor) (f := f) (cd := cdv) (A := A) (outer := outer) (s := s) (H := H) (E := E)
  have hu0 := hr.un0
  exact vb_cons (s_expr (c_d (h_f_check_poly) hr (by decide) tk (a_c (v0 0) (va_nil)))) (vb_cons (s_expr (c_d (h_f_check_poly) hr (by decide) tk (a_c (v0 1) (va_nil)))) (vb_cons (vs_if (VW.vt (vw_and (tcmp (ok_eq hu0) (v0 0) (ve_int)) (vw_and1 (tcmp (ok_eq hu0) (v0 1) (ve_int))))) (vb_one (s_raise 0 h_x_NotPoly h_cv_NotPoly tk)) (vb_nil)) (vb_one (vs_ret (c_d (h_f_common_of) hr (by decide) tk (a_c (v0 0) (a_c (v0 1) (va_nil))))))))
theorem h_degree (T : Facts K mg cv) : Has P w K mg base cv 2 "degree" 1 g_degree := by
  have h_f_check_poly := h_check_poly (P := P) (w := w) (base := base) T
  have h_f_degree_of := h_degree_of (P := P) (w := w) (base := base) T
  refine has_mk (k := 1) (mb := b_degree) T.d_degree sc_degree (fun f cdv A outer s H E hr => ?_) fun as _ => .inr rfl
  have tk := tk_of (P := P) (w := w) (K := K) (mg := mg) (base := base) (N := ["poly"]) (qual := "degree") (sc := defScope s_degree) (f := f) (cd := cdv) (A := A) (outer := outer) (s := s) (H := H) (E := E)
  exact vb_cons (s_expr (c_d (h_f_check_poly) hr (by decide) tk (a_c (v0 0) (va_nil)))) (vb_one (vs_ret (c_d (h_f_degree_of) hr (by decide) tk (a_c (v0 0) (va_nil)))))
theorem h_weight_of (T : Facts K mg cv) : Has P w K mg base cv 1 "weight_of" 1 g_weight_of := by
  have h_n_range := T.n_range
  have h_n_sum := T.n_sum
  refine has_mk (k := 0) (mb := b_weight_of) T.d_weight_of sc_weight_of (fun f cdv A outer s H E hr => ?_) fun as _ => .inr rfl
  exact vb_one (vs_ret (c_b (cok_sum rfl) bt_sum h_n_sum (a_c (lc [("at", 1)] sc_weight_of.nd (i_r1 h_n_range (a_c (bits (v1 0)) (va_nil))) (fun _ _ _ _ _ => g_n 1 sc_weight_of.nd) (fun _ _ _ _ _ => vts_nil) (fun _ _ _ _ _ => ve_bin ok_mod (ve_bin ok_shr (v1 0) (v0 1)) (ve_int))) (va_nil))))
theorem h_weight (T : Facts K mg cv) : Has P w K mg base cv 2 "weight" 1 g_weight := by
  have h_f_check_poly := h_check_poly (P := P) (w := w) (base := base) T
  have h_f_weight_of := h_weight_of (P := P) (w := w) (base := base) T
  refine has_mk (k := 1) (mb := b_weight) T.d_weight sc_weight (fun f cdv A outer s H E hr => ?_) fun as _ => .inr rfl
  have tk := tk_of (P := P) (w := w) (K := K) (mg := mg) (base := base) (N := ["poly"]) (qual := "weight") (sc := defScope s_weight) (f := f) (cd := cdv) (A := A) (outer := outer) (s := s) (H := H) (E := E)
  exact vb_cons (s_expr (c_d (h_f_check_poly) hr (by decide) tk (a_c (v0 0) (va_nil)))) (vb_one (vs_ret (c_d (h_f_weight_of) hr (by decide) tk (a_c (v0 0) (va_nil)))))
theorem h_mirrored_of (T : Facts K mg cv) : Has P w K mg base cv 2 "mirrored_of" 1 g_mirrored_of := by
  have h_n_range := T.n_range
  have h_f_degree_of := h_degree_of (P := P) (w := w) (base := base) T
  refine has_mk (k := 1) (mb := b_mirrored_of) T.d_mirrored_of sc_mirrored_of (fun f cdv A outer s H E hr => ?_) fun as _ => .inr rfl
  have tk := tk_of (P := P) (w := w) (K := K) (mg := mg) (base := base) (N := ["poly", "found", "at"]) (qual := "mirrored_of") (sc := defScope s_mirrored_of) (f := f) (cd := cdv) (A := A) (outer := outer) (s := s) (H := H) (E := E)
  have hp := hp_of (P := P) (w := w) (K := K) (mg := mg) (base := base) (N := ["poly", "found", "at"]) (qual := "mirrored_of") (sc := defScope s_mirrored_of) (f := f) (cd := cdv) (A := A) (outer := outer) (s := s) (H := H) (E := E)
  exact vb_cons (s_set 1 sc_mirrored_of.nd (ve_int)) (vb_cons (s_for hp (i_r1 h_n_range (a_c (ve_bin ok_add (c_d (h_f_degree_of) hr (by decide) tk (a_c (v0 0) (va_nil))) (ve_int)) (va_nil))) (g_n 2 sc_mirrored_of.nd) (vb_one (s_set 1 sc_mirrored_of.nd (ve_bin ok_add (ve_bin ok_mul (ve_int) (v0 1)) (ve_bin ok_mod (ve_bin ok_shr (v0 0) (v0 2)) (ve_int)))))) (vb_one (vs_ret (v0 1))))
theorem h_mirrored (T : Facts K mg cv) : Has P w K mg base cv 3 "mirrored" 1 g_mirrored := by
  have h_f_check_other := h_check_other (P := P) (w := w) (base := base) T
  have h_f_mirrored_of := h_mirrored_of (P := P) (w := w) (base := base) T
  refine has_mk (k := 2) (mb := b_mirrored) T.d_mirrored sc_mirrored (fun f cdv A outer s H E hr => ?_) fun as _ => .inr rfl
  have tk := tk_of (P := P) (w := w) (K := K) (mg := mg) (base := base) (N := ["poly"]) (qual := "mirrored") (sc := defScope s_mirrored) (f := f) (cd := cdv) (A := A) (outer := outer) (s := s) (H := H) (E := E)
  exact vb_cons (s_expr (c_d (h_f_check_other) hr (by decide) tk (a_c (v0 0) (va_nil)))) (vb_one (vs_ret (c_d (h_f_mirrored_of) hr (by decide) tk (a_c (v0 0) (va_nil)))))
theorem h__law_asked (T : Facts K mg cv) : Has P w K mg base cv 6 "_law_asked" 3 g__law_asked := by
  have h_f__law_kind := h__law_kind (P := P) (w := w) (base := base) T
  have h_f_common_divisor := h_common_divisor (P := P) (w := w) (base := base) T
  have h_f_degree := h_degree (P := P) (w := w) (base := base) T
  have h_f_divided := h_divided (P := P) (w := w) (base := base) T
  have h_f_mirrored := h_mirrored (P := P) (w := w) (base := base) T
  have h_f_power_rest := h_power_rest (P := P) (w := w) (base := base) T
  have h_f_product := h_product (P := P) (w := w) (base := base) T
  have h_f_weight := h_weight (P := P) (w := w) (base := base) T
  obtain ⟨_, h_e_CheckError, h_all⟩ := T.x_all
  refine has_mk (k := 5) (mb := b__law_asked) T.d__law_asked sc__law_asked (fun f cdv A outer s H E hr => ?_) fun as _ => .inr rfl
  have tk := tk_of (P := P) (w := w) (K := K) (mg := mg) (base := base) (N := ["way", "one", "other", "error"]) (qual := "_law_asked") (sc := defScope s__law_asked) (f := f) (cd := cdv) (A := A) (outer := outer) (s := s) (H := H) (E := E)
  have hp := hp_of (P := P) (w := w) (K := K) (mg := mg) (base := base) (N := ["way", "one", "other", "error"]) (qual := "_law_asked") (sc := defScope s__law_asked) (f := f) (cd := cdv) (A := A) (outer := outer) (s := s) (H := H) (E := E)
  exact vb_one (s_try (i := 3) (k := 1) h_f__law_kind sc__law_asked.nd h_e_CheckError tk h_all (j := 5) (fun a pn => hot_of hr _) (by decide) (fun W' pn xe tk hp => vb_cons (vs_if (tcmp ok_lt (v0 0) (ve_int)) (vb_one (vs_ret (c_sel (k := 3) (sel_cons (h_f_degree) (by decide) (sel_cons (h_f_weight) (by decide) (sel_cons (h_f_mirrored) (by decide) (sel_nil)))) (by decide) hr (by decide) tk (v0 0) (fun _ _ => rfl) (a_c (v0 1) (va_nil))))) (vb_nil)) (vb_one (vs_ret (c_sel (k := 5) (sel_cons (h_f_product) (by decide) (sel_cons (h_f_divided) (by decide) (sel_cons (h_f_common_divisor) (by decide) (sel_cons (h_f_power_rest) (by decide) (sel_nil))))) (by decide) hr (by decide) tk (ve_bin ok_sub (v0 0) (ve_int)) (fun _ _ => rfl) (a_c (v0 1) (a_c (v0 2) (va_nil))))))))
theorem h__law_common (T : Facts K mg cv) : Has P w K mg base cv 4 "_law_common" 2 g__law_common := by
  have h_n_range := T.n_range
  have h_f__law_rest := h__law_rest (P := P) (w := w) (base := base) T
  refine has_mk (k := 3) (mb := b__law_common) T.d__law_common sc__law_common (fun f cdv A outer s H E hr => ?_) fun as _ => .inr rfl
  have tk := tk_of (P := P) (w := w) (K := K) (mg := mg) (base := base) (N := ["one", "other", "turn"]) (qual := "_law_common") (sc := defScope s__law_common) (f := f) (cd := cdv) (A := A) (outer := outer) (s := s) (H := H) (E := E)
  have hp := hp_of (P := P) (w := w) (K := K) (mg := mg) (base := base) (N := ["one", "other", "turn"]) (qual := "_law_common") (sc := defScope s__law_common) (f := f) (cd := cdv) (A := A) (outer := outer) (s := s) (H := H) (E := E)
  have hu0 := hr.un0
  exact vb_cons (s_for hp (i_r1 h_n_range (a_c (ve_int) (va_nil))) (g_n 2 sc__law_common.nd) (vb_cons (vs_if (tcmp (ok_eq hu0) (v0 1) (ve_int)) (vb_one (vs_break)) (vb_nil)) (vb_one (s_par2 0 1 sc__law_common.nd (a_c (v0 1) (a_c (c_d (h_f__law_rest) hr (by decide) tk (a_c (v0 0) (a_c (v0 1) (va_nil)))) (va_nil))))))) (vb_one (vs_ret (v0 0)))
theorem h_law (T : Facts K mg cv) {fa : Addr} {fd : FuncData} (F : Fun K "law" "law" s_law fa fd) : FnG P w K mg base cv 7 fa fd ["script"] g_law := by
  have h_n_int := T.n_int
  have h_n_range := T.n_range
  have h_n_repr := T.n_repr
  have h_n_tuple := T.n_tuple
  have h_f__law_any := h__law_any (P := P) (w := w) (base := base) T
  have h_f__law_asked := h__law_asked (P := P) (w := w) (base := base) T
  have h_f__law_common := h__law_common (P := P) (w := w) (base := base) T
  have h_f__law_degree := h__law_degree (P := P) (w := w) (base := base) T
  have h_f__law_draws := h__law_draws (P := P) (w := w) (base := base) T
  have h_f__law_flat := h__law_flat (P := P) (w := w) (base := base) T
  have h_f__law_mirrored := h__law_mirrored (P := P) (w := w) (base := base) T
  have h_f__law_more := h__law_more (P := P) (w := w) (base := base) T
  have h_f__law_next := h__law_next (P := P) (w := w) (base := base) T
  have h_f__law_odd := h__law_odd (P := P) (w := w) (base := base) T
  have h_f__law_power := h__law_power (P := P) (w := w) (base := base) T
  have h_f__law_powered := h__law_powered (P := P) (w := w) (base := base) T
  have h_f__law_split := h__law_split (P := P) (w := w) (base := base) T
  have h_f__law_times := h__law_times (P := P) (w := w) (base := base) T
  have h_f__law_weight := h__law_weight (P := P) (w := w) (base := base) T
  have h_f_common_divisor := h_common_divisor (P := P) (w := w) (base := base) T
  have h_f_degree := h_degree (P := P) (w := w) (base := base) T
  have h_f_divided := h_divided (P := P) (w := w) (base := base) T
  have h_f_mirrored := h_mirrored (P := P) (w := w) (base := base) T
  have h_f_power_rest := h_power_rest (P := P) (w := w) (base := base) T
  have h_f_product := h_product (P := P) (w := w) (base := base) T
  have h_f_weight := h_weight (P := P) (w := w) (base := base) T
  refine fnG_mk (k := 6) (mb := b_law) F sc_law (fun f cdv A outer s H E hr => ?_) fun as _ => .inr rfl
  have tk := tk_of (P := P) (w := w) (K := K) (mg := mg) (base := base) (N := ["script", "draws", "one", "other", "n", "due", "great", "top", "told", "way", "poly", "k"]) (qual := "law") (sc := defScope s_law) (f := f) (cd := cdv) (A := A) (outer := outer) (s := s) (H := H) (E := E)
  have hu0 := hr.un0
  have hgd := hr.gd
  exact vb_cons (s_set 1 sc_law.nd (c_l 0 (h_f__law_draws) hr (by decide) tk (a_c (v0 0) (va_nil)))) (vb_cons (s_set 1 sc_law.nd (c_l 0 (h_f__law_more) hr (by decide) tk (a_c (v0 1) (a_c (ve_int) (va_nil))))) (vb_cons (vs_if (tcmp (ok_ne hu0) (c_b (cok_repr hgd hu0) bt_repr h_n_repr (a_c (ve_lst (a_c (c_d (h_f_product) hr (by decide) tk (a_c (ve_int) (a_c (ve_int) (va_nil)))) (a_c (c_d (h_f_mirrored) hr (by decide) tk (a_c (ve_int) (va_nil))) (a_c (c_d (h_f_divided) hr (by decide) tk (a_c (ve_int) (a_c (ve_int) (va_nil)))) (a_c (c_d (h_f_common_divisor) hr (by decide) tk (a_c (ve_int) (a_c (ve_int) (va_nil)))) (a_c (c_d (h_f_degree) hr (by decide) tk (a_c (ve_int) (va_nil))) (a_c (c_d (h_f_weight) hr (by decide) tk (a_c (ve_int) (va_nil))) (a_c (c_d (h_f_power_rest) hr (by decide) tk (a_c (ve_int) (a_c (ve_int) (va_nil)))) (va_nil))))))))) (va_nil))) (c_b (cok_repr hgd hu0) bt_repr h_n_repr (a_c (ve_lst (a_c (ve_int) (a_c (ve_int) (a_c (ve_tup (a_c (ve_int) (a_c (ve_int) (va_nil)))) (a_c (ve_int) (a_c (ve_neg (ve_int)) (a_c (ve_int) (a_c (ve_int) (va_nil))))))))) (va_nil)))) (vb_one (vs_ret (ve_bl))) (vb_nil)) (vb_cons (vs_asg (ve_tup (a_c (c_l 0 (h_f__law_any) hr (by decide) tk (a_c (v0 1) (va_nil))) (a_c (c_l 0 (h_f__law_any) hr (by decide) tk (a_c (v0 1) (va_nil))) (va_nil)))) (g_t 2 (g_c (g_n 2 sc_law.nd) (g_c (g_n 3 sc_law.nd) (vgs_nil))))) (vb_cons (s_set 4 sc_law.nd (ve_bin ok_mod (c_t cok_int bt_int h_n_int (a_c (c_l 0 (h_f__law_next) hr (by decide) tk (a_c (v0 1) (va_nil))) (va_nil))) (ve_int))) (vb_cons (s_set 5 sc_law.nd (ve_lst (a_c (c_d (h_f__law_degree) hr (by decide) tk (a_c (v1 2) (va_nil))) (a_c (c_d (h_f__law_weight) hr (by decide) tk (a_c (v1 2) (va_nil))) (a_c (ve_if (tcmp (ok_eq hu0) (v1 2) (ve_int)) (ve_str) (c_d (h_f__law_mirrored) hr (by decide) tk (a_c (v1 2) (va_nil)))) (a_c (c_d (h_f__law_times) hr (by decide) tk (a_c (v1 2) (a_c (v1 3) (va_nil)))) (a_c (ve_if (tcmp (ok_eq hu0) (v1 3) (ve_int)) (ve_str) (c_t cok_tuple bt_tuple h_n_tuple (a_c (c_d (h_f__law_split) hr (by decide) tk (a_c (v1 2) (a_c (v1 3) (va_nil)))) (va_nil)))) (va_nil)))))))) (vb_cons (s_set 5 sc_law.nd (ve_bin ok_add (v0 5) (ve_lst (a_c (ve_if (VW.vt (vw_and (tcmp (ok_eq hu0) (v1 2) (ve_int)) (vw_and1 (tcmp (ok_eq hu0) (v1 3) (ve_int))))) (ve_str) (c_d (h_f__law_common) hr (by decide) tk (a_c (v1 2) (a_c (v1 3) (va_nil))))) (va_nil))))) (vb_cons (s_expr (mu 5 PySem.F.slot_list_append PySem.F.type_list_append mok_append (.inl rfl) (a_c (ve_if (tcmp ok_lt (v1 3) (ve_int)) (ve_str) (c_d (h_f__law_powered) hr (by decide) tk (a_c (v0 4) (a_c (v1 3) (va_nil))))) (va_nil)))) (vb_cons (vs_if (tcmp (ok_ne hu0) (c_b (cok_repr hgd hu0) bt_repr h_n_repr (a_c (ve_bin ok_add (ve_bin ok_add (lc [("way", 9)] sc_law.nd (i_r1 h_n_range (a_c (ve_int) (va_nil))) (fun _ _ _ _ _ => g_n 9 sc_law.nd) (fun _ _ _ _ _ => vts_nil) (fun _ _ _ _ _ => c_d (h_f__law_asked) hr (by decide) takesF (a_c (v0 9) (a_c (v1 2) (a_c (ve_non) (va_nil)))))) (lc [("way", 9)] sc_law.nd (vi_seq (ve_lst (a_c (ve_int) (a_c (ve_int) (a_c (ve_int) (va_nil)))))) (fun _ _ _ _ _ => g_n 9 sc_law.nd) (fun _ _ _ _ _ => vts_nil) (fun _ _ _ _ _ => c_d (h_f__law_asked) hr (by decide) takesF (a_c (v0 9) (a_c (v1 2) (a_c (v1 3) (va_nil))))))) (ve_lst (a_c (c_d (h_f__law_asked) hr (by decide) tk (a_c (ve_int) (a_c (v0 4) (a_c (v1 3) (va_nil))))) (va_nil)))) (va_nil))) (c_b (cok_repr hgd hu0) bt_repr h_n_repr (a_c (v0 5) (va_nil)))) (vb_one (vs_ret (ve_bl))) (vb_nil)) (vb_cons (s_set 6 sc_law.nd (c_l 0 (h_f__law_odd) hr (by decide) tk (a_c (v0 1) (a_c (ve_int) (va_nil))))) (vb_cons (vs_if (tcmp (ok_ne hu0) (c_d (h_f_power_rest) hr (by decide) tk (a_c (ve_bin ok_pow (ve_int) (ve_int)) (a_c (v0 6) (va_nil)))) (ve_bin ok_xor (ve_bin ok_mul (c_d (h_f_power_rest) hr (by decide) tk (a_c (ve_bin ok_sub (ve_bin ok_pow (ve_int) (ve_int)) (ve_int)) (a_c (v0 6) (va_nil)))) (ve_int)) (ve_if (tcmp (ok_eq hu0) (c_d (h_f__law_degree) hr (by decide) tk (a_c (ve_bin ok_mul (ve_int) (c_d (h_f_power_rest) hr (by decide) tk (a_c (ve_bin ok_sub (ve_bin ok_pow (ve_int) (ve_int)) (ve_int)) (a_c (v0 6) (va_nil))))) (va_nil))) (c_d (h_f__law_degree) hr (by decide) tk (a_c (v0 6) (va_nil)))) (v0 6) (ve_int)))) (vb_one (vs_ret (ve_bl))) (vb_nil)) (vb_cons (s_set 7 sc_law.nd (c_d (h_f__law_power) hr (by decide) tk (a_c (ve_int) (va_nil)))) (vb_cons (s_set 8 sc_law.nd (ve_bin ok_add (c_d (h_f__law_flat) hr (by decide) tk (a_c (lc [("way", 9)] sc_law.nd (i_r1 h_n_range (a_c (ve_int) (va_nil))) (fun _ _ _ _ _ => g_n 9 sc_law.nd) (fun _ _ _ _ _ => vts_nil) (fun _ _ _ _ _ => lc [("poly", 10)] sc_law.nd (vi_seq (ve_lst (a_c (ve_neg (ve_int)) (a_c (v1 7) (va_nil))))) (fun _ _ _ _ _ => g_n 10 sc_law.nd) (fun _ _ _ _ _ => vts_nil) (fun _ _ _ _ _ => c_d (h_f__law_asked) hr (by decide) takesF (a_c (v1 9) (a_c (v0 10) (a_c (ve_int) (va_nil))))))) (va_nil))) (c_d (h_f__law_flat) hr (by decide) tk (a_c (lc [("way", 9)] sc_law.nd (vi_seq (ve_lst (a_c (ve_int) (a_c (ve_int) (a_c (ve_int) (va_nil)))))) (fun _ _ _ _ _ => g_n 9 sc_law.nd) (fun _ _ _ _ _ => vts_nil) (fun _ _ _ _ _ => lc [("poly", 10)] sc_law.nd (vi_seq (ve_lst (a_c (ve_neg (ve_int)) (a_c (v1 7) (va_nil))))) (fun _ _ _ _ _ => g_n 10 sc_law.nd) (fun _ _ _ _ _ => vts_nil) (fun _ _ _ _ _ => c_d (h_f__law_asked) hr (by decide) takesF (a_c (v1 9) (a_c (ve_int) (a_c (v0 10) (va_nil))))))) (va_nil))))) (vb_cons (s_set 8 sc_law.nd (ve_bin ok_add (v0 8) (lc [("poly", 10)] sc_law.nd (vi_seq (ve_lst (a_c (ve_neg (ve_int)) (a_c (v1 7) (a_c (ve_int) (a_c (ve_int) (va_nil))))))) (fun _ _ _ _ _ => g_n 10 sc_law.nd) (fun _ _ _ _ _ => vts_nil) (fun _ _ _ _ _ => c_d (h_f__law_asked) hr (by decide) takesF (a_c (ve_int) (a_c (ve_int) (a_c (v0 10) (va_nil)))))))) (vb_one (vs_ret (ve_and (cmp (ok_eq hu0) (v0 8) (ve_bin ok_mul (ve_lst (a_c (ve_str) (va_nil))) (ve_int))) (ve_and (cmp (ok_eq hu0) (lc [("k", 11)] sc_law.nd (vi_seq (ve_lst (a_c (ve_neg (ve_int)) (a_c (ve_bin ok_add (ve_bin ok_pow (ve_int) (ve_int)) (ve_int)) (va_nil))))) (fun _ _ _ _ _ => g_n 11 sc_law.nd) (fun _ _ _ _ _ => vts_nil) (fun _ _ _ _ _ => c_d (h_f__law_asked) hr (by decide) takesF (a_c (ve_int) (a_c (v0 11) (a_c (ve_int) (va_nil)))))) (ve_bin ok_mul (ve_lst (a_c (ve_str) (va_nil))) (ve_int))) (ve_one (cmp (ok_eq hu0) (lc [("way", 9)] sc_law.nd (i_r1 h_n_range (a_c (ve_int) (va_nil))) (fun _ _ _ _ _ => g_n 9 sc_law.nd) (fun _ _ _ _ _ => vts_nil) (fun _ _ _ _ _ => c_d (h_f__law_asked) hr (by decide) takesF (a_c (v0 9) (a_c (ve_bin ok_sub (v1 7) (ve_int)) (a_c (ve_non) (va_nil)))))) (ve_lst (a_c (ve_int) (a_c (ve_int) (va_nil)))))))))))))))))))))))
end
def cvA (c0 : Addr) (c1 : Addr) (c2 : Addr) (c3 : Addr) (c4 : Addr) (c5 : Addr) (c6 : Addr) : Nat → Addr
  | 0 => c0
  | 1 => c1
  | 2 => c2
  | 3 => c3
  | 4 => c4
  | 5 => c5
  | _ => c6
theorem mk {P : Program} {w : World} {K : PySem.W.Frag} {h : Heap} {mg : Str → Option Value} {fa : Addr} (X : K.In h) (G : h.Ns mainGlobals mg) (hfa : mg "law" = some (.ref fa))
    {t_MOST_BITS : Tok}
    {t_MOST_POWER : Tok}
    {f__law_number : Addr} {od__law_number an__law_number : Option Addr} {sl__law_number : Array (Option Value)} {oc__law_number kV__law_number dc__law_number pm__law_number cd__law_number ct__law_number : Value}
    {f__law_draws : Addr} {od__law_draws an__law_draws : Option Addr} {sl__law_draws : Array (Option Value)} {oc__law_draws kV__law_draws dc__law_draws pm__law_draws cd__law_draws ct__law_draws : Value}
    {f__law_next : Addr} {od__law_next an__law_next : Option Addr} {sl__law_next : Array (Option Value)} {oc__law_next kV__law_next dc__law_next pm__law_next cd__law_next ct__law_next : Value}
    {f__law_more : Addr} {od__law_more an__law_more : Option Addr} {sl__law_more : Array (Option Value)} {oc__law_more kV__law_more dc__law_more pm__law_more cd__law_more ct__law_more : Value}
    {f__law_power : Addr} {od__law_power an__law_power : Option Addr} {sl__law_power : Array (Option Value)} {oc__law_power kV__law_power dc__law_power pm__law_power cd__law_power ct__law_power : Value}
    {f__law_odd : Addr} {od__law_odd an__law_odd : Option Addr} {sl__law_odd : Array (Option Value)} {oc__law_odd kV__law_odd dc__law_odd pm__law_odd cd__law_odd ct__law_odd : Value}
    {f__law_any : Addr} {od__law_any an__law_any : Option Addr} {sl__law_any : Array (Option Value)} {oc__law_any kV__law_any dc__law_any pm__law_any cd__law_any ct__law_any : Value}
    {f__law_degree : Addr} {od__law_degree an__law_degree : Option Addr} {sl__law_degree : Array (Option Value)} {oc__law_degree kV__law_degree dc__law_degree pm__law_degree cd__law_degree ct__law_degree : Value}
    {f__law_weight : Addr} {od__law_weight an__law_weight : Option Addr} {sl__law_weight : Array (Option Value)} {oc__law_weight kV__law_weight dc__law_weight pm__law_weight cd__law_weight ct__law_weight : Value}
    {f__law_times : Addr} {od__law_times an__law_times : Option Addr} {sl__law_times : Array (Option Value)} {oc__law_times kV__law_times dc__law_times pm__law_times cd__law_times ct__law_times : Value}
    {f_check_poly : Addr} {od_check_poly an_check_poly : Option Addr} {sl_check_poly : Array (Option Value)} {oc_check_poly kV_check_poly dc_check_poly pm_check_poly cd_check_poly ct_check_poly : Value}
    {f_degree_of : Addr} {od_degree_of an_degree_of : Option Addr} {sl_degree_of : Array (Option Value)} {oc_degree_of kV_degree_of dc_degree_of pm_degree_of cd_degree_of ct_degree_of : Value}
    {f_divided_of : Addr} {od_divided_of an_divided_of : Option Addr} {sl_divided_of : Array (Option Value)} {oc_divided_of kV_divided_of dc_divided_of pm_divided_of cd_divided_of ct_divided_of : Value}
    {f_rest_of : Addr} {od_rest_of an_rest_of : Option Addr} {sl_rest_of : Array (Option Value)} {oc_rest_of kV_rest_of dc_rest_of pm_rest_of cd_rest_of ct_rest_of : Value}
    {f_product_of : Addr} {od_product_of an_product_of : Option Addr} {sl_product_of : Array (Option Value)} {oc_product_of kV_product_of dc_product_of pm_product_of cd_product_of ct_product_of : Value}
    {f_power_by : Addr} {od_power_by an_power_by : Option Addr} {sl_power_by : Array (Option Value)} {oc_power_by kV_power_by dc_power_by pm_power_by cd_power_by ct_power_by : Value}
    {f_power_rest : Addr} {od_power_rest an_power_rest : Option Addr} {sl_power_rest : Array (Option Value)} {oc_power_rest kV_power_rest dc_power_rest pm_power_rest cd_power_rest ct_power_rest : Value}
    {f__law_flat : Addr} {od__law_flat an__law_flat : Option Addr} {sl__law_flat : Array (Option Value)} {oc__law_flat kV__law_flat dc__law_flat pm__law_flat cd__law_flat ct__law_flat : Value}
    {f__law_mirrored : Addr} {od__law_mirrored an__law_mirrored : Option Addr} {sl__law_mirrored : Array (Option Value)} {oc__law_mirrored kV__law_mirrored dc__law_mirrored pm__law_mirrored cd__law_mirrored ct__law_mirrored : Value}
    {f__law_split : Addr} {od__law_split an__law_split : Option Addr} {sl__law_split : Array (Option Value)} {oc__law_split kV__law_split dc__law_split pm__law_split cd__law_split ct__law_split : Value}
    {f__law_rest : Addr} {od__law_rest an__law_rest : Option Addr} {sl__law_rest : Array (Option Value)} {oc__law_rest kV__law_rest dc__law_rest pm__law_rest cd__law_rest ct__law_rest : Value}
    {f__law_powered : Addr} {od__law_powered an__law_powered : Option Addr} {sl__law_powered : Array (Option Value)} {oc__law_powered kV__law_powered dc__law_powered pm__law_powered cd__law_powered ct__law_powered : Value}
    {f__law_kind : Addr} {od__law_kind an__law_kind : Option Addr} {sl__law_kind : Array (Option Value)} {oc__law_kind kV__law_kind dc__law_kind pm__law_kind cd__law_kind ct__law_kind : Value}
    {f_product : Addr} {od_product an_product : Option Addr} {sl_product : Array (Option Value)} {oc_product kV_product dc_product pm_product cd_product ct_product : Value}
    {f_check_other : Addr} {od_check_other an_check_other : Option Addr} {sl_check_other : Array (Option Value)} {oc_check_other kV_check_other dc_check_other pm_check_other cd_check_other ct_check_other : Value}
    {f_divided : Addr} {od_divided an_divided : Option Addr} {sl_divided : Array (Option Value)} {oc_divided kV_divided dc_divided pm_divided cd_divided ct_divided : Value}
    {f_common_of : Addr} {od_common_of an_common_of : Option Addr} {sl_common_of : Array (Option Value)} {oc_common_of kV_common_of dc_common_of pm_common_of cd_common_of ct_common_of : Value}
    {f_common_divisor : Addr} {od_common_divisor an_common_divisor : Option Addr} {sl_common_divisor : Array (Option Value)} {oc_common_divisor kV_common_divisor dc_common_divisor pm_common_divisor cd_common_divisor ct_common_divisor : Value}
    {f_degree : Addr} {od_degree an_degree : Option Addr} {sl_degree : Array (Option Value)} {oc_degree kV_degree dc_degree pm_degree cd_degree ct_degree : Value}
    {f_weight_of : Addr} {od_weight_of an_weight_of : Option Addr} {sl_weight_of : Array (Option Value)} {oc_weight_of kV_weight_of dc_weight_of pm_weight_of cd_weight_of ct_weight_of : Value}
    {f_weight : Addr} {od_weight an_weight : Option Addr} {sl_weight : Array (Option Value)} {oc_weight kV_weight dc_weight pm_weight cd_weight ct_weight : Value}
    {f_mirrored_of : Addr} {od_mirrored_of an_mirrored_of : Option Addr} {sl_mirrored_of : Array (Option Value)} {oc_mirrored_of kV_mirrored_of dc_mirrored_of pm_mirrored_of cd_mirrored_of ct_mirrored_of : Value}
    {f_mirrored : Addr} {od_mirrored an_mirrored : Option Addr} {sl_mirrored : Array (Option Value)} {oc_mirrored kV_mirrored dc_mirrored pm_mirrored cd_mirrored ct_mirrored : Value}
    {f__law_asked : Addr} {od__law_asked an__law_asked : Option Addr} {sl__law_asked : Array (Option Value)} {oc__law_asked kV__law_asked dc__law_asked pm__law_asked cd__law_asked ct__law_asked : Value}
    {f__law_common : Addr} {od__law_common an__law_common : Option Addr} {sl__law_common : Array (Option Value)} {oc__law_common kV__law_common dc__law_common pm__law_common cd__law_common ct__law_common : Value}
    {f_law : Addr} {od_law an_law : Option Addr} {sl_law : Array (Option Value)} {oc_law kV_law dc_law pm_law cd_law ct_law : Value}
    {C_NotPoly : Addr}
    {C_NotCheck : Addr}
    {C_NotText : Addr}
    {C_NotPaper : Addr}
    {C_BadNumber : Addr}
    {C_NoAnswer : Addr}
    {C_TooLarge : Addr}
    {C_CheckError : Addr}
    (z_int : PySem.W.nsIn K mainGlobals "int" = some none)
    (z_isinstance : PySem.W.nsIn K mainGlobals "isinstance" = some none)
    (z_range : PySem.W.nsIn K mainGlobals "range" = some none)
    (z_repr : PySem.W.nsIn K mainGlobals "repr" = some none)
    (z_sum : PySem.W.nsIn K mainGlobals "sum" = some none)
    (z_tuple : PySem.W.nsIn K mainGlobals "tuple" = some none)
    (v_MOST_BITS : PySem.W.nsIn K mainGlobals "MOST_BITS" = some (some (.int 64 t_MOST_BITS)))
    (v_MOST_POWER : PySem.W.nsIn K mainGlobals "MOST_POWER" = some (some (.int 1000000000000000000000000000000 t_MOST_POWER)))
    (a__law_number : PySem.W.nsIn K mainGlobals "_law_number" = some (some (.ref f__law_number)))
    (l__law_number : K.lookup f__law_number = some ⟨oc__law_number, od__law_number, .func (PySem.W.fnOf "_law_number" "_law_number" (defArgs s__law_number) (defBody s__law_number) (defScope s__law_number) .none kV__law_number dc__law_number pm__law_number an__law_number cd__law_number ct__law_number), sl__law_number⟩)
    (c__law_number : PySem.W.codeIn K cd__law_number "_law_number" = true)
    (k__law_number : PySem.W.keepIn K (.ref f__law_number) = true)
    (a__law_draws : PySem.W.nsIn K mainGlobals "_law_draws" = some (some (.ref f__law_draws)))
    (l__law_draws : K.lookup f__law_draws = some ⟨oc__law_draws, od__law_draws, .func (PySem.W.fnOf "_law_draws" "_law_draws" (defArgs s__law_draws) (defBody s__law_draws) (defScope s__law_draws) .none kV__law_draws dc__law_draws pm__law_draws an__law_draws cd__law_draws ct__law_draws), sl__law_draws⟩)
    (c__law_draws : PySem.W.codeIn K cd__law_draws "_law_draws" = true)
    (k__law_draws : PySem.W.keepIn K (.ref f__law_draws) = true)
    (a__law_next : PySem.W.nsIn K mainGlobals "_law_next" = some (some (.ref f__law_next)))
    (l__law_next : K.lookup f__law_next = some ⟨oc__law_next, od__law_next, .func (PySem.W.fnOf "_law_next" "_law_next" (defArgs s__law_next) (defBody s__law_next) (defScope s__law_next) .none kV__law_next dc__law_next pm__law_next an__law_next cd__law_next ct__law_next), sl__law_next⟩)
    (c__law_next : PySem.W.codeIn K cd__law_next "_law_next" = true)
    (k__law_next : PySem.W.keepIn K (.ref f__law_next) = true)
    (a__law_more : PySem.W.nsIn K mainGlobals "_law_more" = some (some (.ref f__law_more)))
    (l__law_more : K.lookup f__law_more = some ⟨oc__law_more, od__law_more, .func (PySem.W.fnOf "_law_more" "_law_more" (defArgs s__law_more) (defBody s__law_more) (defScope s__law_more) .none kV__law_more dc__law_more pm__law_more an__law_more cd__law_more ct__law_more), sl__law_more⟩)
    (c__law_more : PySem.W.codeIn K cd__law_more "_law_more" = true)
    (k__law_more : PySem.W.keepIn K (.ref f__law_more) = true)
    (a__law_power : PySem.W.nsIn K mainGlobals "_law_power" = some (some (.ref f__law_power)))
    (l__law_power : K.lookup f__law_power = some ⟨oc__law_power, od__law_power, .func (PySem.W.fnOf "_law_power" "_law_power" (defArgs s__law_power) (defBody s__law_power) (defScope s__law_power) .none kV__law_power dc__law_power pm__law_power an__law_power cd__law_power ct__law_power), sl__law_power⟩)
    (c__law_power : PySem.W.codeIn K cd__law_power "_law_power" = true)
    (k__law_power : PySem.W.keepIn K (.ref f__law_power) = true)
    (a__law_odd : PySem.W.nsIn K mainGlobals "_law_odd" = some (some (.ref f__law_odd)))
    (l__law_odd : K.lookup f__law_odd = some ⟨oc__law_odd, od__law_odd, .func (PySem.W.fnOf "_law_odd" "_law_odd" (defArgs s__law_odd) (defBody s__law_odd) (defScope s__law_odd) .none kV__law_odd dc__law_odd pm__law_odd an__law_odd cd__law_odd ct__law_odd), sl__law_odd⟩)
    (c__law_odd : PySem.W.codeIn K cd__law_odd "_law_odd" = true)
    (k__law_odd : PySem.W.keepIn K (.ref f__law_odd) = true)
    (a__law_any : PySem.W.nsIn K mainGlobals "_law_any" = some (some (.ref f__law_any)))
    (l__law_any : K.lookup f__law_any = some ⟨oc__law_any, od__law_any, .func (PySem.W.fnOf "_law_any" "_law_any" (defArgs s__law_any) (defBody s__law_any) (defScope s__law_any) .none kV__law_any dc__law_any pm__law_any an__law_any cd__law_any ct__law_any), sl__law_any⟩)
    (c__law_any : PySem.W.codeIn K cd__law_any "_law_any" = true)
    (k__law_any : PySem.W.keepIn K (.ref f__law_any) = true)
    (a__law_degree : PySem.W.nsIn K mainGlobals "_law_degree" = some (some (.ref f__law_degree)))
    (l__law_degree : K.lookup f__law_degree = some ⟨oc__law_degree, od__law_degree, .func (PySem.W.fnOf "_law_degree" "_law_degree" (defArgs s__law_degree) (defBody s__law_degree) (defScope s__law_degree) .none kV__law_degree dc__law_degree pm__law_degree an__law_degree cd__law_degree ct__law_degree), sl__law_degree⟩)
    (c__law_degree : PySem.W.codeIn K cd__law_degree "_law_degree" = true)
    (k__law_degree : PySem.W.keepIn K (.ref f__law_degree) = true)
    (a__law_weight : PySem.W.nsIn K mainGlobals "_law_weight" = some (some (.ref f__law_weight)))
    (l__law_weight : K.lookup f__law_weight = some ⟨oc__law_weight, od__law_weight, .func (PySem.W.fnOf "_law_weight" "_law_weight" (defArgs s__law_weight) (defBody s__law_weight) (defScope s__law_weight) .none kV__law_weight dc__law_weight pm__law_weight an__law_weight cd__law_weight ct__law_weight), sl__law_weight⟩)
    (c__law_weight : PySem.W.codeIn K cd__law_weight "_law_weight" = true)
    (k__law_weight : PySem.W.keepIn K (.ref f__law_weight) = true)
    (a__law_times : PySem.W.nsIn K mainGlobals "_law_times" = some (some (.ref f__law_times)))
    (l__law_times : K.lookup f__law_times = some ⟨oc__law_times, od__law_times, .func (PySem.W.fnOf "_law_times" "_law_times" (defArgs s__law_times) (defBody s__law_times) (defScope s__law_times) .none kV__law_times dc__law_times pm__law_times an__law_times cd__law_times ct__law_times), sl__law_times⟩)
    (c__law_times : PySem.W.codeIn K cd__law_times "_law_times" = true)
    (k__law_times : PySem.W.keepIn K (.ref f__law_times) = true)
    (a_check_poly : PySem.W.nsIn K mainGlobals "check_poly" = some (some (.ref f_check_poly)))
    (l_check_poly : K.lookup f_check_poly = some ⟨oc_check_poly, od_check_poly, .func (PySem.W.fnOf "check_poly" "check_poly" (defArgs s_check_poly) (defBody s_check_poly) (defScope s_check_poly) .none kV_check_poly dc_check_poly pm_check_poly an_check_poly cd_check_poly ct_check_poly), sl_check_poly⟩)
    (c_check_poly : PySem.W.codeIn K cd_check_poly "check_poly" = true)
    (k_check_poly : PySem.W.keepIn K (.ref f_check_poly) = true)
    (a_degree_of : PySem.W.nsIn K mainGlobals "degree_of" = some (some (.ref f_degree_of)))
    (l_degree_of : K.lookup f_degree_of = some ⟨oc_degree_of, od_degree_of, .func (PySem.W.fnOf "degree_of" "degree_of" (defArgs s_degree_of) (defBody s_degree_of) (defScope s_degree_of) .none kV_degree_of dc_degree_of pm_degree_of an_degree_of cd_degree_of ct_degree_of), sl_degree_of⟩)
    (c_degree_of : PySem.W.codeIn K cd_degree_of "degree_of" = true)
    (k_degree_of : PySem.W.keepIn K (.ref f_degree_of) = true)
    (a_divided_of : PySem.W.nsIn K mainGlobals "divided_of" = some (some (.ref f_divided_of)))
    (l_divided_of : K.lookup f_divided_of = some ⟨oc_divided_of, od_divided_of, .func (PySem.W.fnOf "divided_of" "divided_of" (defArgs s_divided_of) (defBody s_divided_of) (defScope s_divided_of) .none kV_divided_of dc_divided_of pm_divided_of an_divided_of cd_divided_of ct_divided_of), sl_divided_of⟩)
    (c_divided_of : PySem.W.codeIn K cd_divided_of "divided_of" = true)
    (k_divided_of : PySem.W.keepIn K (.ref f_divided_of) = true)
    (a_rest_of : PySem.W.nsIn K mainGlobals "rest_of" = some (some (.ref f_rest_of)))
    (l_rest_of : K.lookup f_rest_of = some ⟨oc_rest_of, od_rest_of, .func (PySem.W.fnOf "rest_of" "rest_of" (defArgs s_rest_of) (defBody s_rest_of) (defScope s_rest_of) .none kV_rest_of dc_rest_of pm_rest_of an_rest_of cd_rest_of ct_rest_of), sl_rest_of⟩)
    (c_rest_of : PySem.W.codeIn K cd_rest_of "rest_of" = true)
    (k_rest_of : PySem.W.keepIn K (.ref f_rest_of) = true)
    (a_product_of : PySem.W.nsIn K mainGlobals "product_of" = some (some (.ref f_product_of)))
    (l_product_of : K.lookup f_product_of = some ⟨oc_product_of, od_product_of, .func (PySem.W.fnOf "product_of" "product_of" (defArgs s_product_of) (defBody s_product_of) (defScope s_product_of) .none kV_product_of dc_product_of pm_product_of an_product_of cd_product_of ct_product_of), sl_product_of⟩)
    (c_product_of : PySem.W.codeIn K cd_product_of "product_of" = true)
    (k_product_of : PySem.W.keepIn K (.ref f_product_of) = true)
    (a_power_by : PySem.W.nsIn K mainGlobals "power_by" = some (some (.ref f_power_by)))
    (l_power_by : K.lookup f_power_by = some ⟨oc_power_by, od_power_by, .func (PySem.W.fnOf "power_by" "power_by" (defArgs s_power_by) (defBody s_power_by) (defScope s_power_by) .none kV_power_by dc_power_by pm_power_by an_power_by cd_power_by ct_power_by), sl_power_by⟩)
    (c_power_by : PySem.W.codeIn K cd_power_by "power_by" = true)
    (k_power_by : PySem.W.keepIn K (.ref f_power_by) = true)
    (a_power_rest : PySem.W.nsIn K mainGlobals "power_rest" = some (some (.ref f_power_rest)))
    (l_power_rest : K.lookup f_power_rest = some ⟨oc_power_rest, od_power_rest, .func (PySem.W.fnOf "power_rest" "power_rest" (defArgs s_power_rest) (defBody s_power_rest) (defScope s_power_rest) .none kV_power_rest dc_power_rest pm_power_rest an_power_rest cd_power_rest ct_power_rest), sl_power_rest⟩)
    (c_power_rest : PySem.W.codeIn K cd_power_rest "power_rest" = true)
    (k_power_rest : PySem.W.keepIn K (.ref f_power_rest) = true)
    (a__law_flat : PySem.W.nsIn K mainGlobals "_law_flat" = some (some (.ref f__law_flat)))
    (l__law_flat : K.lookup f__law_flat = some ⟨oc__law_flat, od__law_flat, .func (PySem.W.fnOf "_law_flat" "_law_flat" (defArgs s__law_flat) (defBody s__law_flat) (defScope s__law_flat) .none kV__law_flat dc__law_flat pm__law_flat an__law_flat cd__law_flat ct__law_flat), sl__law_flat⟩)
    (c__law_flat : PySem.W.codeIn K cd__law_flat "_law_flat" = true)
    (k__law_flat : PySem.W.keepIn K (.ref f__law_flat) = true)
    (a__law_mirrored : PySem.W.nsIn K mainGlobals "_law_mirrored" = some (some (.ref f__law_mirrored)))
    (l__law_mirrored : K.lookup f__law_mirrored = some ⟨oc__law_mirrored, od__law_mirrored, .func (PySem.W.fnOf "_law_mirrored" "_law_mirrored" (defArgs s__law_mirrored) (defBody s__law_mirrored) (defScope s__law_mirrored) .none kV__law_mirrored dc__law_mirrored pm__law_mirrored an__law_mirrored cd__law_mirrored ct__law_mirrored), sl__law_mirrored⟩)
    (c__law_mirrored : PySem.W.codeIn K cd__law_mirrored "_law_mirrored" = true)
    (k__law_mirrored : PySem.W.keepIn K (.ref f__law_mirrored) = true)
    (a__law_split : PySem.W.nsIn K mainGlobals "_law_split" = some (some (.ref f__law_split)))
    (l__law_split : K.lookup f__law_split = some ⟨oc__law_split, od__law_split, .func (PySem.W.fnOf "_law_split" "_law_split" (defArgs s__law_split) (defBody s__law_split) (defScope s__law_split) .none kV__law_split dc__law_split pm__law_split an__law_split cd__law_split ct__law_split), sl__law_split⟩)
    (c__law_split : PySem.W.codeIn K cd__law_split "_law_split" = true)
    (k__law_split : PySem.W.keepIn K (.ref f__law_split) = true)
    (a__law_rest : PySem.W.nsIn K mainGlobals "_law_rest" = some (some (.ref f__law_rest)))
    (l__law_rest : K.lookup f__law_rest = some ⟨oc__law_rest, od__law_rest, .func (PySem.W.fnOf "_law_rest" "_law_rest" (defArgs s__law_rest) (defBody s__law_rest) (defScope s__law_rest) .none kV__law_rest dc__law_rest pm__law_rest an__law_rest cd__law_rest ct__law_rest), sl__law_rest⟩)
    (c__law_rest : PySem.W.codeIn K cd__law_rest "_law_rest" = true)
    (k__law_rest : PySem.W.keepIn K (.ref f__law_rest) = true)
    (a__law_powered : PySem.W.nsIn K mainGlobals "_law_powered" = some (some (.ref f__law_powered)))
    (l__law_powered : K.lookup f__law_powered = some ⟨oc__law_powered, od__law_powered, .func (PySem.W.fnOf "_law_powered" "_law_powered" (defArgs s__law_powered) (defBody s__law_powered) (defScope s__law_powered) .none kV__law_powered dc__law_powered pm__law_powered an__law_powered cd__law_powered ct__law_powered), sl__law_powered⟩)
    (c__law_powered : PySem.W.codeIn K cd__law_powered "_law_powered" = true)
    (k__law_powered : PySem.W.keepIn K (.ref f__law_powered) = true)
    (a__law_kind : PySem.W.nsIn K mainGlobals "_law_kind" = some (some (.ref f__law_kind)))
    (l__law_kind : K.lookup f__law_kind = some ⟨oc__law_kind, od__law_kind, .func (PySem.W.fnOf "_law_kind" "_law_kind" (defArgs s__law_kind) (defBody s__law_kind) (defScope s__law_kind) .none kV__law_kind dc__law_kind pm__law_kind an__law_kind cd__law_kind ct__law_kind), sl__law_kind⟩)
    (c__law_kind : PySem.W.codeIn K cd__law_kind "_law_kind" = true)
    (k__law_kind : PySem.W.keepIn K (.ref f__law_kind) = true)
    (a_product : PySem.W.nsIn K mainGlobals "product" = some (some (.ref f_product)))
    (l_product : K.lookup f_product = some ⟨oc_product, od_product, .func (PySem.W.fnOf "product" "product" (defArgs s_product) (defBody s_product) (defScope s_product) .none kV_product dc_product pm_product an_product cd_product ct_product), sl_product⟩)
    (c_product : PySem.W.codeIn K cd_product "product" = true)
    (k_product : PySem.W.keepIn K (.ref f_product) = true)
    (a_check_other : PySem.W.nsIn K mainGlobals "check_other" = some (some (.ref f_check_other)))
    (l_check_other : K.lookup f_check_other = some ⟨oc_check_other, od_check_other, .func (PySem.W.fnOf "check_other" "check_other" (defArgs s_check_other) (defBody s_check_other) (defScope s_check_other) .none kV_check_other dc_check_other pm_check_other an_check_other cd_check_other ct_check_other), sl_check_other⟩)
    (c_check_other : PySem.W.codeIn K cd_check_other "check_other" = true)
    (k_check_other : PySem.W.keepIn K (.ref f_check_other) = true)
    (a_divided : PySem.W.nsIn K mainGlobals "divided" = some (some (.ref f_divided)))
    (l_divided : K.lookup f_divided = some ⟨oc_divided, od_divided, .func (PySem.W.fnOf "divided" "divided" (defArgs s_divided) (defBody s_divided) (defScope s_divided) .none kV_divided dc_divided pm_divided an_divided cd_divided ct_divided), sl_divided⟩)
    (c_divided : PySem.W.codeIn K cd_divided "divided" = true)
    (k_divided : PySem.W.keepIn K (.ref f_divided) = true)
    (a_common_of : PySem.W.nsIn K mainGlobals "common_of" = some (some (.ref f_common_of)))
    (l_common_of : K.lookup f_common_of = some ⟨oc_common_of, od_common_of, .func (PySem.W.fnOf "common_of" "common_of" (defArgs s_common_of) (defBody s_common_of) (defScope s_common_of) .none kV_common_of dc_common_of pm_common_of an_common_of cd_common_of ct_common_of), sl_common_of⟩)
    (c_common_of : PySem.W.codeIn K cd_common_of "common_of" = true)
    (k_common_of : PySem.W.keepIn K (.ref f_common_of) = true)
    (a_common_divisor : PySem.W.nsIn K mainGlobals "common_divisor" = some (some (.ref f_common_divisor)))
    (l_common_divisor : K.lookup f_common_divisor = some ⟨oc_common_divisor, od_common_divisor, .func (PySem.W.fnOf "common_divisor" "common_divisor" (defArgs s_common_divisor) (defBody s_common_divisor) (defScope s_common_divisor) .none kV_common_divisor dc_common_divisor pm_common_divisor an_common_divisor cd_common_divisor ct_common_divisor), sl_common_divisor⟩)
    (c_common_divisor : PySem.W.codeIn K cd_common_divisor "common_divisor" = true)
    (k_common_divisor : PySem.W.keepIn K (.ref f_common_divisor) = true)
    (a_degree : PySem.W.nsIn K mainGlobals "degree" = some (some (.ref f_degree)))
    (l_degree : K.lookup f_degree = some ⟨oc_degree, od_degree, .func (PySem.W.fnOf "degree" "degree" (defArgs s_degree) (defBody s_degree) (defScope s_degree) .none kV_degree dc_degree pm_degree an_degree cd_degree ct_degree), sl_degree⟩)
    (c_degree : PySem.W.codeIn K cd_degree "degree" = true)
    (k_degree : PySem.W.keepIn K (.ref f_degree) = true)
    (a_weight_of : PySem.W.nsIn K mainGlobals "weight_of" = some (some (.ref f_weight_of)))
    (l_weight_of : K.lookup f_weight_of = some ⟨oc_weight_of, od_weight_of, .func (PySem.W.fnOf "weight_of" "weight_of" (defArgs s_weight_of) (defBody s_weight_of) (defScope s_weight_of) .none kV_weight_of dc_weight_of pm_weight_of an_weight_of cd_weight_of ct_weight_of), sl_weight_of⟩)
    (c_weight_of : PySem.W.codeIn K cd_weight_of "weight_of" = true)
    (k_weight_of : PySem.W.keepIn K (.ref f_weight_of) = true)
    (a_weight : PySem.W.nsIn K mainGlobals "weight" = some (some (.ref f_weight)))
    (l_weight : K.lookup f_weight = some ⟨oc_weight, od_weight, .func (PySem.W.fnOf "weight" "weight" (defArgs s_weight) (defBody s_weight) (defScope s_weight) .none kV_weight dc_weight pm_weight an_weight cd_weight ct_weight), sl_weight⟩)
    (c_weight : PySem.W.codeIn K cd_weight "weight" = true)
    (k_weight : PySem.W.keepIn K (.ref f_weight) = true)
    (a_mirrored_of : PySem.W.nsIn K mainGlobals "mirrored_of" = some (some (.ref f_mirrored_of)))
    (l_mirrored_of : K.lookup f_mirrored_of = some ⟨oc_mirrored_of, od_mirrored_of, .func (PySem.W.fnOf "mirrored_of" "mirrored_of" (defArgs s_mirrored_of) (defBody s_mirrored_of) (defScope s_mirrored_of) .none kV_mirrored_of dc_mirrored_of pm_mirrored_of an_mirrored_of cd_mirrored_of ct_mirrored_of), sl_mirrored_of⟩)
    (c_mirrored_of : PySem.W.codeIn K cd_mirrored_of "mirrored_of" = true)
    (k_mirrored_of : PySem.W.keepIn K (.ref f_mirrored_of) = true)
    (a_mirrored : PySem.W.nsIn K mainGlobals "mirrored" = some (some (.ref f_mirrored)))
    (l_mirrored : K.lookup f_mirrored = some ⟨oc_mirrored, od_mirrored, .func (PySem.W.fnOf "mirrored" "mirrored" (defArgs s_mirrored) (defBody s_mirrored) (defScope s_mirrored) .none kV_mirrored dc_mirrored pm_mirrored an_mirrored cd_mirrored ct_mirrored), sl_mirrored⟩)
    (c_mirrored : PySem.W.codeIn K cd_mirrored "mirrored" = true)
    (k_mirrored : PySem.W.keepIn K (.ref f_mirrored) = true)
    (a__law_asked : PySem.W.nsIn K mainGlobals "_law_asked" = some (some (.ref f__law_asked)))
    (l__law_asked : K.lookup f__law_asked = some ⟨oc__law_asked, od__law_asked, .func (PySem.W.fnOf "_law_asked" "_law_asked" (defArgs s__law_asked) (defBody s__law_asked) (defScope s__law_asked) .none kV__law_asked dc__law_asked pm__law_asked an__law_asked cd__law_asked ct__law_asked), sl__law_asked⟩)
    (c__law_asked : PySem.W.codeIn K cd__law_asked "_law_asked" = true)
    (k__law_asked : PySem.W.keepIn K (.ref f__law_asked) = true)
    (a__law_common : PySem.W.nsIn K mainGlobals "_law_common" = some (some (.ref f__law_common)))
    (l__law_common : K.lookup f__law_common = some ⟨oc__law_common, od__law_common, .func (PySem.W.fnOf "_law_common" "_law_common" (defArgs s__law_common) (defBody s__law_common) (defScope s__law_common) .none kV__law_common dc__law_common pm__law_common an__law_common cd__law_common ct__law_common), sl__law_common⟩)
    (c__law_common : PySem.W.codeIn K cd__law_common "_law_common" = true)
    (k__law_common : PySem.W.keepIn K (.ref f__law_common) = true)
    (a_law : PySem.W.nsIn K mainGlobals "law" = some (some (.ref f_law)))
    (l_law : K.lookup f_law = some ⟨oc_law, od_law, .func (PySem.W.fnOf "law" "law" (defArgs s_law) (defBody s_law) (defScope s_law) .none kV_law dc_law pm_law an_law cd_law ct_law), sl_law⟩)
    (c_law : PySem.W.codeIn K cd_law "law" = true)
    (k_law : PySem.W.keepIn K (.ref f_law) = true)
    (q_NotPoly : Cl K h mg "NotPoly" C_NotPoly)
    (q_NotCheck : Cl K h mg "NotCheck" C_NotCheck)
    (q_NotText : Cl K h mg "NotText" C_NotText)
    (q_NotPaper : Cl K h mg "NotPaper" C_NotPaper)
    (q_BadNumber : Cl K h mg "BadNumber" C_BadNumber)
    (q_NoAnswer : Cl K h mg "NoAnswer" C_NoAnswer)
    (q_TooLarge : Cl K h mg "TooLarge" C_TooLarge)
    (gE : PySem.W.nsIn K mainGlobals "CheckError" = some (some (.ref C_CheckError)))
    (sE : PySem.W.subIn K (.ref C_CheckError) (.type "BaseException") = some true)
    (iE : PySem.W.isClsIn K C_CheckError = true)
    (tE : PySem.W.typeIn K (.ref C_CheckError) = some (.type "type"))
    (e_NotPoly : PySem.W.subIn K (.ref C_NotPoly) (.ref C_CheckError) = some true)
    (e_NotCheck : PySem.W.subIn K (.ref C_NotCheck) (.ref C_CheckError) = some true)
    (e_NotText : PySem.W.subIn K (.ref C_NotText) (.ref C_CheckError) = some true)
    (e_NotPaper : PySem.W.subIn K (.ref C_NotPaper) (.ref C_CheckError) = some true)
    (e_BadNumber : PySem.W.subIn K (.ref C_BadNumber) (.ref C_CheckError) = some true)
    (e_NoAnswer : PySem.W.subIn K (.ref C_NoAnswer) (.ref C_CheckError) = some true)
    (e_TooLarge : PySem.W.subIn K (.ref C_TooLarge) (.ref C_CheckError) = some true)
    (hn : PySem.W.specialIn K (.builtin "object.__class__") "__get__" = some (some (.builtin "getset_descriptor.__get__")))
    (ht : PySem.W.takesIn K (.builtin "object.__class__") = some true)
    (s_NotPoly_NotPoly : PySem.W.subIn K (.ref C_NotPoly) (.ref C_NotPoly) = some true)
    (s_NotPoly_NotCheck : PySem.W.subIn K (.ref C_NotPoly) (.ref C_NotCheck) = some false)
    (n_NotPoly_NotCheck : (Value.ref C_NotPoly == Value.ref C_NotCheck) = true → false = true)
    (s_NotPoly_NotText : PySem.W.subIn K (.ref C_NotPoly) (.ref C_NotText) = some false)
    (n_NotPoly_NotText : (Value.ref C_NotPoly == Value.ref C_NotText) = true → false = true)
    (s_NotPoly_NotPaper : PySem.W.subIn K (.ref C_NotPoly) (.ref C_NotPaper) = some false)
    (n_NotPoly_NotPaper : (Value.ref C_NotPoly == Value.ref C_NotPaper) = true → false = true)
    (s_NotPoly_BadNumber : PySem.W.subIn K (.ref C_NotPoly) (.ref C_BadNumber) = some false)
    (n_NotPoly_BadNumber : (Value.ref C_NotPoly == Value.ref C_BadNumber) = true → false = true)
    (s_NotPoly_NoAnswer : PySem.W.subIn K (.ref C_NotPoly) (.ref C_NoAnswer) = some false)
    (n_NotPoly_NoAnswer : (Value.ref C_NotPoly == Value.ref C_NoAnswer) = true → false = true)
    (s_NotPoly_TooLarge : PySem.W.subIn K (.ref C_NotPoly) (.ref C_TooLarge) = some false)
    (n_NotPoly_TooLarge : (Value.ref C_NotPoly == Value.ref C_TooLarge) = true → false = true)
    (s_NotCheck_NotPoly : PySem.W.subIn K (.ref C_NotCheck) (.ref C_NotPoly) = some false)
    (n_NotCheck_NotPoly : (Value.ref C_NotCheck == Value.ref C_NotPoly) = true → false = true)
    (s_NotCheck_NotCheck : PySem.W.subIn K (.ref C_NotCheck) (.ref C_NotCheck) = some true)
    (s_NotCheck_NotText : PySem.W.subIn K (.ref C_NotCheck) (.ref C_NotText) = some false)
    (n_NotCheck_NotText : (Value.ref C_NotCheck == Value.ref C_NotText) = true → false = true)
    (s_NotCheck_NotPaper : PySem.W.subIn K (.ref C_NotCheck) (.ref C_NotPaper) = some false)
    (n_NotCheck_NotPaper : (Value.ref C_NotCheck == Value.ref C_NotPaper) = true → false = true)
    (s_NotCheck_BadNumber : PySem.W.subIn K (.ref C_NotCheck) (.ref C_BadNumber) = some false)
    (n_NotCheck_BadNumber : (Value.ref C_NotCheck == Value.ref C_BadNumber) = true → false = true)
    (s_NotCheck_NoAnswer : PySem.W.subIn K (.ref C_NotCheck) (.ref C_NoAnswer) = some false)
    (n_NotCheck_NoAnswer : (Value.ref C_NotCheck == Value.ref C_NoAnswer) = true → false = true)
    (s_NotCheck_TooLarge : PySem.W.subIn K (.ref C_NotCheck) (.ref C_TooLarge) = some false)
    (n_NotCheck_TooLarge : (Value.ref C_NotCheck == Value.ref C_TooLarge) = true → false = true)
    (s_NotText_NotPoly : PySem.W.subIn K (.ref C_NotText) (.ref C_NotPoly) = some false)
    (n_NotText_NotPoly : (Value.ref C_NotText == Value.ref C_NotPoly) = true → false = true)
    (s_NotText_NotCheck : PySem.W.subIn K (.ref C_NotText) (.ref C_NotCheck) = some false)
    (n_NotText_NotCheck : (Value.ref C_NotText == Value.ref C_NotCheck) = true → false = true)
    (s_NotText_NotText : PySem.W.subIn K (.ref C_NotText) (.ref C_NotText) = some true)
    (s_NotText_NotPaper : PySem.W.subIn K (.ref C_NotText) (.ref C_NotPaper) = some false)
    (n_NotText_NotPaper : (Value.ref C_NotText == Value.ref C_NotPaper) = true → false = true)
    (s_NotText_BadNumber : PySem.W.subIn K (.ref C_NotText) (.ref C_BadNumber) = some false)
    (n_NotText_BadNumber : (Value.ref C_NotText == Value.ref C_BadNumber) = true → false = true)
    (s_NotText_NoAnswer : PySem.W.subIn K (.ref C_NotText) (.ref C_NoAnswer) = some false)
    (n_NotText_NoAnswer : (Value.ref C_NotText == Value.ref C_NoAnswer) = true → false = true)
    (s_NotText_TooLarge : PySem.W.subIn K (.ref C_NotText) (.ref C_TooLarge) = some false)
    (n_NotText_TooLarge : (Value.ref C_NotText == Value.ref C_TooLarge) = true → false = true)
    (s_NotPaper_NotPoly : PySem.W.subIn K (.ref C_NotPaper) (.ref C_NotPoly) = some false)
    (n_NotPaper_NotPoly : (Value.ref C_NotPaper == Value.ref C_NotPoly) = true → false = true)
    (s_NotPaper_NotCheck : PySem.W.subIn K (.ref C_NotPaper) (.ref C_NotCheck) = some false)
    (n_NotPaper_NotCheck : (Value.ref C_NotPaper == Value.ref C_NotCheck) = true → false = true)
    (s_NotPaper_NotText : PySem.W.subIn K (.ref C_NotPaper) (.ref C_NotText) = some false)
    (n_NotPaper_NotText : (Value.ref C_NotPaper == Value.ref C_NotText) = true → false = true)
    (s_NotPaper_NotPaper : PySem.W.subIn K (.ref C_NotPaper) (.ref C_NotPaper) = some true)
    (s_NotPaper_BadNumber : PySem.W.subIn K (.ref C_NotPaper) (.ref C_BadNumber) = some false)
    (n_NotPaper_BadNumber : (Value.ref C_NotPaper == Value.ref C_BadNumber) = true → false = true)
    (s_NotPaper_NoAnswer : PySem.W.subIn K (.ref C_NotPaper) (.ref C_NoAnswer) = some false)
    (n_NotPaper_NoAnswer : (Value.ref C_NotPaper == Value.ref C_NoAnswer) = true → false = true)
    (s_NotPaper_TooLarge : PySem.W.subIn K (.ref C_NotPaper) (.ref C_TooLarge) = some false)
    (n_NotPaper_TooLarge : (Value.ref C_NotPaper == Value.ref C_TooLarge) = true → false = true)
    (s_BadNumber_NotPoly : PySem.W.subIn K (.ref C_BadNumber) (.ref C_NotPoly) = some false)
    (n_BadNumber_NotPoly : (Value.ref C_BadNumber == Value.ref C_NotPoly) = true → false = true)
    (s_BadNumber_NotCheck : PySem.W.subIn K (.ref C_BadNumber) (.ref C_NotCheck) = some false)
    (n_BadNumber_NotCheck : (Value.ref C_BadNumber == Value.ref C_NotCheck) = true → false = true)
    (s_BadNumber_NotText : PySem.W.subIn K (.ref C_BadNumber) (.ref C_NotText) = some false)
    (n_BadNumber_NotText : (Value.ref C_BadNumber == Value.ref C_NotText) = true → false = true)
    (s_BadNumber_NotPaper : PySem.W.subIn K (.ref C_BadNumber) (.ref C_NotPaper) = some false)
    (n_BadNumber_NotPaper : (Value.ref C_BadNumber == Value.ref C_NotPaper) = true → false = true)
    (s_BadNumber_BadNumber : PySem.W.subIn K (.ref C_BadNumber) (.ref C_BadNumber) = some true)
    (s_BadNumber_NoAnswer : PySem.W.subIn K (.ref C_BadNumber) (.ref C_NoAnswer) = some false)
    (n_BadNumber_NoAnswer : (Value.ref C_BadNumber == Value.ref C_NoAnswer) = true → false = true)
    (s_BadNumber_TooLarge : PySem.W.subIn K (.ref C_BadNumber) (.ref C_TooLarge) = some false)
    (n_BadNumber_TooLarge : (Value.ref C_BadNumber == Value.ref C_TooLarge) = true → false = true)
    (s_NoAnswer_NotPoly : PySem.W.subIn K (.ref C_NoAnswer) (.ref C_NotPoly) = some false)
    (n_NoAnswer_NotPoly : (Value.ref C_NoAnswer == Value.ref C_NotPoly) = true → false = true)
    (s_NoAnswer_NotCheck : PySem.W.subIn K (.ref C_NoAnswer) (.ref C_NotCheck) = some false)
    (n_NoAnswer_NotCheck : (Value.ref C_NoAnswer == Value.ref C_NotCheck) = true → false = true)
    (s_NoAnswer_NotText : PySem.W.subIn K (.ref C_NoAnswer) (.ref C_NotText) = some false)
    (n_NoAnswer_NotText : (Value.ref C_NoAnswer == Value.ref C_NotText) = true → false = true)
    (s_NoAnswer_NotPaper : PySem.W.subIn K (.ref C_NoAnswer) (.ref C_NotPaper) = some false)
    (n_NoAnswer_NotPaper : (Value.ref C_NoAnswer == Value.ref C_NotPaper) = true → false = true)
    (s_NoAnswer_BadNumber : PySem.W.subIn K (.ref C_NoAnswer) (.ref C_BadNumber) = some false)
    (n_NoAnswer_BadNumber : (Value.ref C_NoAnswer == Value.ref C_BadNumber) = true → false = true)
    (s_NoAnswer_NoAnswer : PySem.W.subIn K (.ref C_NoAnswer) (.ref C_NoAnswer) = some true)
    (s_NoAnswer_TooLarge : PySem.W.subIn K (.ref C_NoAnswer) (.ref C_TooLarge) = some false)
    (n_NoAnswer_TooLarge : (Value.ref C_NoAnswer == Value.ref C_TooLarge) = true → false = true)
    (s_TooLarge_NotPoly : PySem.W.subIn K (.ref C_TooLarge) (.ref C_NotPoly) = some false)
    (n_TooLarge_NotPoly : (Value.ref C_TooLarge == Value.ref C_NotPoly) = true → false = true)
    (s_TooLarge_NotCheck : PySem.W.subIn K (.ref C_TooLarge) (.ref C_NotCheck) = some false)
    (n_TooLarge_NotCheck : (Value.ref C_TooLarge == Value.ref C_NotCheck) = true → false = true)
    (s_TooLarge_NotText : PySem.W.subIn K (.ref C_TooLarge) (.ref C_NotText) = some false)
    (n_TooLarge_NotText : (Value.ref C_TooLarge == Value.ref C_NotText) = true → false = true)
    (s_TooLarge_NotPaper : PySem.W.subIn K (.ref C_TooLarge) (.ref C_NotPaper) = some false)
    (n_TooLarge_NotPaper : (Value.ref C_TooLarge == Value.ref C_NotPaper) = true → false = true)
    (s_TooLarge_BadNumber : PySem.W.subIn K (.ref C_TooLarge) (.ref C_BadNumber) = some false)
    (n_TooLarge_BadNumber : (Value.ref C_TooLarge == Value.ref C_BadNumber) = true → false = true)
    (s_TooLarge_NoAnswer : PySem.W.subIn K (.ref C_TooLarge) (.ref C_NoAnswer) = some false)
    (n_TooLarge_NoAnswer : (Value.ref C_TooLarge == Value.ref C_NoAnswer) = true → false = true)
    (s_TooLarge_TooLarge : PySem.W.subIn K (.ref C_TooLarge) (.ref C_TooLarge) = some true)
    : ∃ (fd : FuncData) (cv : Nat → Value), (∀ (s : Shared) (u : Value), BindsTo s fd ⟨[u], []⟩ [("script", u)]) ∧ ∀ base : Heap, K.In base → base.Ns mainGlobals mg → FnG P w K mg base cv 7 fa fd ["script"] g_law := by
  have e := hfa.symm.trans (PySem.W.mg_of X G a_law)
  cases e
  have F := fun_mk l_law c_law k_law
  have x_NotPoly := q_NotPoly.exc hn ht
  have x_NotCheck := q_NotCheck.exc hn ht
  have x_NotText := q_NotText.exc hn ht
  have x_NotPaper := q_NotPaper.exc hn ht
  have x_BadNumber := q_BadNumber.exc hn ht
  have x_NoAnswer := q_NoAnswer.exc hn ht
  have x_TooLarge := q_TooLarge.exc hn ht
  have T : Facts K mg (fun c => .ref (cvA C_NotPoly C_NotCheck C_NotText C_NotPaper C_BadNumber C_NoAnswer C_TooLarge c)) := {
    n_int := PySem.W.mg_none_of X G z_int
    n_isinstance := PySem.W.mg_none_of X G z_isinstance
    n_range := PySem.W.mg_none_of X G z_range
    n_repr := PySem.W.mg_none_of X G z_repr
    n_sum := PySem.W.mg_none_of X G z_sum
    n_tuple := PySem.W.mg_none_of X G z_tuple
    c_MOST_BITS := ⟨_, PySem.W.mg_of X G v_MOST_BITS⟩
    c_MOST_POWER := ⟨_, PySem.W.mg_of X G v_MOST_POWER⟩
    d__law_number := def_mk X G a__law_number l__law_number c__law_number k__law_number fun _ _ _ _ _ _ us hl => match us, hl with | [_], _ => rfl
    d__law_draws := def_mk X G a__law_draws l__law_draws c__law_draws k__law_draws fun _ _ _ _ _ _ us hl => match us, hl with | [_], _ => rfl
    d__law_next := def_mk X G a__law_next l__law_next c__law_next k__law_next fun _ _ _ _ _ _ us hl => match us, hl with | [_], _ => rfl
    d__law_more := def_mk X G a__law_more l__law_more c__law_more k__law_more fun _ _ _ _ _ _ us hl => match us, hl with | [_, _], _ => rfl
    d__law_power := def_mk X G a__law_power l__law_power c__law_power k__law_power fun _ _ _ _ _ _ us hl => match us, hl with | [_], _ => rfl
    d__law_odd := def_mk X G a__law_odd l__law_odd c__law_odd k__law_odd fun _ _ _ _ _ _ us hl => match us, hl with | [_, _], _ => rfl
    d__law_any := def_mk X G a__law_any l__law_any c__law_any k__law_any fun _ _ _ _ _ _ us hl => match us, hl with | [_], _ => rfl
    d__law_degree := def_mk X G a__law_degree l__law_degree c__law_degree k__law_degree fun _ _ _ _ _ _ us hl => match us, hl with | [_], _ => rfl
    d__law_weight := def_mk X G a__law_weight l__law_weight c__law_weight k__law_weight fun _ _ _ _ _ _ us hl => match us, hl with | [_], _ => rfl
    d__law_times := def_mk X G a__law_times l__law_times c__law_times k__law_times fun _ _ _ _ _ _ us hl => match us, hl with | [_, _], _ => rfl
    d_check_poly := def_mk X G a_check_poly l_check_poly c_check_poly k_check_poly fun _ _ _ _ _ _ us hl => match us, hl with | [_], _ => rfl
    d_degree_of := def_mk X G a_degree_of l_degree_of c_degree_of k_degree_of fun _ _ _ _ _ _ us hl => match us, hl with | [_], _ => rfl
    d_divided_of := def_mk X G a_divided_of l_divided_of c_divided_of k_divided_of fun _ _ _ _ _ _ us hl => match us, hl with | [_, _], _ => rfl
    d_rest_of := def_mk X G a_rest_of l_rest_of c_rest_of k_rest_of fun _ _ _ _ _ _ us hl => match us, hl with | [_, _], _ => rfl
    d_product_of := def_mk X G a_product_of l_product_of c_product_of k_product_of fun _ _ _ _ _ _ us hl => match us, hl with | [_, _], _ => rfl
    d_power_by := def_mk X G a_power_by l_power_by c_power_by k_power_by fun _ _ _ _ _ _ us hl => match us, hl with | [_, _], _ => rfl
    d_power_rest := def_mk X G a_power_rest l_power_rest c_power_rest k_power_rest fun _ _ _ _ _ _ us hl => match us, hl with | [_, _], _ => rfl
    d__law_flat := def_mk X G a__law_flat l__law_flat c__law_flat k__law_flat fun _ _ _ _ _ _ us hl => match us, hl with | [_], _ => rfl
    d__law_mirrored := def_mk X G a__law_mirrored l__law_mirrored c__law_mirrored k__law_mirrored fun _ _ _ _ _ _ us hl => match us, hl with | [_], _ => rfl
    d__law_split := def_mk X G a__law_split l__law_split c__law_split k__law_split fun _ _ _ _ _ _ us hl => match us, hl with | [_, _], _ => rfl
    d__law_rest := def_mk X G a__law_rest l__law_rest c__law_rest k__law_rest fun _ _ _ _ _ _ us hl => match us, hl with | [_, _], _ => rfl
    d__law_powered := def_mk X G a__law_powered l__law_powered c__law_powered k__law_powered fun _ _ _ _ _ _ us hl => match us, hl with | [_, _], _ => rfl
    d__law_kind := def_mk X G a__law_kind l__law_kind c__law_kind k__law_kind fun _ _ _ _ _ _ us hl => match us, hl with | [_], _ => rfl
    d_product := def_mk X G a_product l_product c_product k_product fun _ _ _ _ _ _ us hl => match us, hl with | [_, _], _ => rfl
    d_check_other := def_mk X G a_check_other l_check_other c_check_other k_check_other fun _ _ _ _ _ _ us hl => match us, hl with | [_], _ => rfl
    d_divided := def_mk X G a_divided l_divided c_divided k_divided fun _ _ _ _ _ _ us hl => match us, hl with | [_, _], _ => rfl
    d_common_of := def_mk X G a_common_of l_common_of c_common_of k_common_of fun _ _ _ _ _ _ us hl => match us, hl with | [_, _], _ => rfl
    d_common_divisor := def_mk X G a_common_divisor l_common_divisor c_common_divisor k_common_divisor fun _ _ _ _ _ _ us hl => match us, hl with | [_, _], _ => rfl
    d_degree := def_mk X G a_degree l_degree c_degree k_degree fun _ _ _ _ _ _ us hl => match us, hl with | [_], _ => rfl
    d_weight_of := def_mk X G a_weight_of l_weight_of c_weight_of k_weight_of fun _ _ _ _ _ _ us hl => match us, hl with | [_], _ => rfl
    d_weight := def_mk X G a_weight l_weight c_weight k_weight fun _ _ _ _ _ _ us hl => match us, hl with | [_], _ => rfl
    d_mirrored_of := def_mk X G a_mirrored_of l_mirrored_of c_mirrored_of k_mirrored_of fun _ _ _ _ _ _ us hl => match us, hl with | [_], _ => rfl
    d_mirrored := def_mk X G a_mirrored l_mirrored c_mirrored k_mirrored fun _ _ _ _ _ _ us hl => match us, hl with | [_], _ => rfl
    d__law_asked := def_mk X G a__law_asked l__law_asked c__law_asked k__law_asked fun _ _ _ _ _ _ us hl => match us, hl with | [_, _, _], _ => rfl
    d__law_common := def_mk X G a__law_common l__law_common c__law_common k__law_common fun _ _ _ _ _ _ us hl => match us, hl with | [_, _], _ => rfl
    d_law := def_mk X G a_law l_law c_law k_law fun _ _ _ _ _ _ us hl => match us, hl with | [_], _ => rfl
    x_NotPoly := ⟨C_NotPoly, rfl, q_NotPoly.exn X G x_NotPoly, fun c D e => by
      cases e
      match c with
      | 0 => exact kit_of (b := true) q_NotPoly.ic q_NotPoly.ty s_NotPoly_NotPoly (fun _ => rfl)
      | 1 => exact kit_of (b := false) q_NotPoly.ic q_NotPoly.ty s_NotCheck_NotPoly (n_NotCheck_NotPoly)
      | 2 => exact kit_of (b := false) q_NotPoly.ic q_NotPoly.ty s_NotText_NotPoly (n_NotText_NotPoly)
      | 3 => exact kit_of (b := false) q_NotPoly.ic q_NotPoly.ty s_NotPaper_NotPoly (n_NotPaper_NotPoly)
      | 4 => exact kit_of (b := false) q_NotPoly.ic q_NotPoly.ty s_BadNumber_NotPoly (n_BadNumber_NotPoly)
      | 5 => exact kit_of (b := false) q_NotPoly.ic q_NotPoly.ty s_NoAnswer_NotPoly (n_NoAnswer_NotPoly)
      | c + 6 =>
        have q : kb 0 (c + 6) = false := by
          have r : ¬ (c + 6 < 6) := by omega
          unfold kb; rw [if_neg r]; rfl
        rw [q]; exact kit_of (b := false) q_NotPoly.ic q_NotPoly.ty s_TooLarge_NotPoly (n_TooLarge_NotPoly)⟩
    x_NotCheck := ⟨C_NotCheck, rfl, q_NotCheck.exn X G x_NotCheck, fun c D e => by
      cases e
      match c with
      | 0 => exact kit_of (b := false) q_NotCheck.ic q_NotCheck.ty s_NotPoly_NotCheck (n_NotPoly_NotCheck)
      | 1 => exact kit_of (b := true) q_NotCheck.ic q_NotCheck.ty s_NotCheck_NotCheck (fun _ => rfl)
      | 2 => exact kit_of (b := false) q_NotCheck.ic q_NotCheck.ty s_NotText_NotCheck (n_NotText_NotCheck)
      | 3 => exact kit_of (b := false) q_NotCheck.ic q_NotCheck.ty s_NotPaper_NotCheck (n_NotPaper_NotCheck)
      | 4 => exact kit_of (b := false) q_NotCheck.ic q_NotCheck.ty s_BadNumber_NotCheck (n_BadNumber_NotCheck)
      | 5 => exact kit_of (b := false) q_NotCheck.ic q_NotCheck.ty s_NoAnswer_NotCheck (n_NoAnswer_NotCheck)
      | c + 6 =>
        have q : kb 1 (c + 6) = false := by
          have r : ¬ (c + 6 < 6) := by omega
          unfold kb; rw [if_neg r]; rfl
        rw [q]; exact kit_of (b := false) q_NotCheck.ic q_NotCheck.ty s_TooLarge_NotCheck (n_TooLarge_NotCheck)⟩
    x_NotText := ⟨C_NotText, rfl, q_NotText.exn X G x_NotText, fun c D e => by
      cases e
      match c with
      | 0 => exact kit_of (b := false) q_NotText.ic q_NotText.ty s_NotPoly_NotText (n_NotPoly_NotText)
      | 1 => exact kit_of (b := false) q_NotText.ic q_NotText.ty s_NotCheck_NotText (n_NotCheck_NotText)
      | 2 => exact kit_of (b := true) q_NotText.ic q_NotText.ty s_NotText_NotText (fun _ => rfl)
      | 3 => exact kit_of (b := false) q_NotText.ic q_NotText.ty s_NotPaper_NotText (n_NotPaper_NotText)
      | 4 => exact kit_of (b := false) q_NotText.ic q_NotText.ty s_BadNumber_NotText (n_BadNumber_NotText)
      | 5 => exact kit_of (b := false) q_NotText.ic q_NotText.ty s_NoAnswer_NotText (n_NoAnswer_NotText)
      | c + 6 =>
        have q : kb 2 (c + 6) = false := by
          have r : ¬ (c + 6 < 6) := by omega
          unfold kb; rw [if_neg r]; rfl
        rw [q]; exact kit_of (b := false) q_NotText.ic q_NotText.ty s_TooLarge_NotText (n_TooLarge_NotText)⟩
    x_NotPaper := ⟨C_NotPaper, rfl, q_NotPaper.exn X G x_NotPaper, fun c D e => by
      cases e
      match c with
      | 0 => exact kit_of (b := false) q_NotPaper.ic q_NotPaper.ty s_NotPoly_NotPaper (n_NotPoly_NotPaper)
      | 1 => exact kit_of (b := false) q_NotPaper.ic q_NotPaper.ty s_NotCheck_NotPaper (n_NotCheck_NotPaper)
      | 2 => exact kit_of (b := false) q_NotPaper.ic q_NotPaper.ty s_NotText_NotPaper (n_NotText_NotPaper)
      | 3 => exact kit_of (b := true) q_NotPaper.ic q_NotPaper.ty s_NotPaper_NotPaper (fun _ => rfl)
      | 4 => exact kit_of (b := false) q_NotPaper.ic q_NotPaper.ty s_BadNumber_NotPaper (n_BadNumber_NotPaper)
      | 5 => exact kit_of (b := false) q_NotPaper.ic q_NotPaper.ty s_NoAnswer_NotPaper (n_NoAnswer_NotPaper)
      | c + 6 =>
        have q : kb 3 (c + 6) = false := by
          have r : ¬ (c + 6 < 6) := by omega
          unfold kb; rw [if_neg r]; rfl
        rw [q]; exact kit_of (b := false) q_NotPaper.ic q_NotPaper.ty s_TooLarge_NotPaper (n_TooLarge_NotPaper)⟩
    x_BadNumber := ⟨C_BadNumber, rfl, q_BadNumber.exn X G x_BadNumber, fun c D e => by
      cases e
      match c with
      | 0 => exact kit_of (b := false) q_BadNumber.ic q_BadNumber.ty s_NotPoly_BadNumber (n_NotPoly_BadNumber)
      | 1 => exact kit_of (b := false) q_BadNumber.ic q_BadNumber.ty s_NotCheck_BadNumber (n_NotCheck_BadNumber)
      | 2 => exact kit_of (b := false) q_BadNumber.ic q_BadNumber.ty s_NotText_BadNumber (n_NotText_BadNumber)
      | 3 => exact kit_of (b := false) q_BadNumber.ic q_BadNumber.ty s_NotPaper_BadNumber (n_NotPaper_BadNumber)
      | 4 => exact kit_of (b := true) q_BadNumber.ic q_BadNumber.ty s_BadNumber_BadNumber (fun _ => rfl)
      | 5 => exact kit_of (b := false) q_BadNumber.ic q_BadNumber.ty s_NoAnswer_BadNumber (n_NoAnswer_BadNumber)
      | c + 6 =>
        have q : kb 4 (c + 6) = false := by
          have r : ¬ (c + 6 < 6) := by omega
          unfold kb; rw [if_neg r]; rfl
        rw [q]; exact kit_of (b := false) q_BadNumber.ic q_BadNumber.ty s_TooLarge_BadNumber (n_TooLarge_BadNumber)⟩
    x_NoAnswer := ⟨C_NoAnswer, rfl, q_NoAnswer.exn X G x_NoAnswer, fun c D e => by
      cases e
      match c with
      | 0 => exact kit_of (b := false) q_NoAnswer.ic q_NoAnswer.ty s_NotPoly_NoAnswer (n_NotPoly_NoAnswer)
      | 1 => exact kit_of (b := false) q_NoAnswer.ic q_NoAnswer.ty s_NotCheck_NoAnswer (n_NotCheck_NoAnswer)
      | 2 => exact kit_of (b := false) q_NoAnswer.ic q_NoAnswer.ty s_NotText_NoAnswer (n_NotText_NoAnswer)
      | 3 => exact kit_of (b := false) q_NoAnswer.ic q_NoAnswer.ty s_NotPaper_NoAnswer (n_NotPaper_NoAnswer)
      | 4 => exact kit_of (b := false) q_NoAnswer.ic q_NoAnswer.ty s_BadNumber_NoAnswer (n_BadNumber_NoAnswer)
      | 5 => exact kit_of (b := true) q_NoAnswer.ic q_NoAnswer.ty s_NoAnswer_NoAnswer (fun _ => rfl)
      | c + 6 =>
        have q : kb 5 (c + 6) = false := by
          have r : ¬ (c + 6 < 6) := by omega
          unfold kb; rw [if_neg r]; rfl
        rw [q]; exact kit_of (b := false) q_NoAnswer.ic q_NoAnswer.ty s_TooLarge_NoAnswer (n_TooLarge_NoAnswer)⟩
    x_TooLarge := ⟨C_TooLarge, rfl, q_TooLarge.exn X G x_TooLarge, fun c D e => by
      cases e
      match c with
      | 0 => exact kit_of (b := false) q_TooLarge.ic q_TooLarge.ty s_NotPoly_TooLarge (n_NotPoly_TooLarge)
      | 1 => exact kit_of (b := false) q_TooLarge.ic q_TooLarge.ty s_NotCheck_TooLarge (n_NotCheck_TooLarge)
      | 2 => exact kit_of (b := false) q_TooLarge.ic q_TooLarge.ty s_NotText_TooLarge (n_NotText_TooLarge)
      | 3 => exact kit_of (b := false) q_TooLarge.ic q_TooLarge.ty s_NotPaper_TooLarge (n_NotPaper_TooLarge)
      | 4 => exact kit_of (b := false) q_TooLarge.ic q_TooLarge.ty s_BadNumber_TooLarge (n_BadNumber_TooLarge)
      | 5 => exact kit_of (b := false) q_TooLarge.ic q_TooLarge.ty s_NoAnswer_TooLarge (n_NoAnswer_TooLarge)
      | c + 6 =>
        have q : kb 6 (c + 6) = true := by
          have r : ¬ (c + 6 < 6) := by omega
          unfold kb; rw [if_neg r]; rfl
        rw [q]; exact kit_of (b := true) q_TooLarge.ic q_TooLarge.ty s_TooLarge_TooLarge (fun _ => rfl)⟩
    x_all := ⟨C_CheckError, PySem.W.mg_of X G gE, fun c => match c with | 0 => exm_of sE iE tE e_NotPoly | 1 => exm_of sE iE tE e_NotCheck | 2 => exm_of sE iE tE e_NotText | 3 => exm_of sE iE tE e_NotPaper | 4 => exm_of sE iE tE e_BadNumber | 5 => exm_of sE iE tE e_NoAnswer | _ + 6 => exm_of sE iE tE e_TooLarge⟩
    x_c := fun c => match c with | 0 => ⟨C_NotPoly, rfl, x_NotPoly⟩ | 1 => ⟨C_NotCheck, rfl, x_NotCheck⟩ | 2 => ⟨C_NotText, rfl, x_NotText⟩ | 3 => ⟨C_NotPaper, rfl, x_NotPaper⟩ | 4 => ⟨C_BadNumber, rfl, x_BadNumber⟩ | 5 => ⟨C_NoAnswer, rfl, x_NoAnswer⟩ | _ + 6 => ⟨C_TooLarge, rfl, x_TooLarge⟩ }
  exact ⟨_, _, fun s v => .of_eq rfl, fun base _ _ => h_law T F⟩
end K00
set_option maxHeartbeats 400000
namespace K00
open PySem PySem.Spec PyProof.Rows L2 EV GF
theorem bits_n (n : Nat) : Builtin.Int.intBits (n : Int) = bl n := by
  unfold Builtin.Int.intBits bl
  by_cases h : n = 0
  · subst h; rfl
  · rw [if_neg h]
    have e : ((n : Int) == 0) = false := by simpa using h
    rw [e]
    rfl
theorem gBits_dn (n : Nat) : gBits (dn n) = some (.d (dn (bl n))) := by
  show some (Vl.d (.int ((Builtin.Int.intBits (n : Int) : Nat) : Int))) = _
  rw [bits_n]
  rfl
/-- the degree -/
def dg (n : Nat) : D := .int ((bl n : Int) - 1)
theorem sub1_dn (n : Nat) : gSub (dn n) (dn 1) = some (.d (.int ((n : Int) - 1))) := rfl
theorem degree_of_ok (n : Nat) : g_degree_of [.d (dn n)] = .ok (.d (dg n)) [.d (dn n)] := by
  simp -implicitDefEqProofs [g_degree_of, b_degree_of, gBits_dn, sub1_dn, dg]
theorem dg_ge (a b : Nat) : gGe (dg a) (dg b) = some (.d (.bool (decide (bl b ≤ bl a)))) := by
  show some (Vl.d (.bool (decide (((bl b : Int) - 1) ≤ ((bl a : Int) - 1))))) = _
  congr 3
  exact decide_eq_decide.mpr (by omega)
theorem dg_sub {a b : Nat} (h : bl b ≤ bl a) : gSub (dg a) (dg b) = some (.d (dn (bl a - bl b))) := by
  show some (Vl.d (.int (((bl a : Int) - 1) - ((bl b : Int) - 1)))) = some (Vl.d (.int ((bl a - bl b : Nat) : Int)))
  congr 3
  omega
theorem power_turn (k i : Nat) (x : D) (h : i ≤ 1000) : b1__law_power [.d (dn k), .d (dn (2 ^ i)), .d x] = .nx [.d (dn k), .d (dn (2 ^ (i + 1))), .d x] := by
  have e : 2 * 2 ^ i = 2 ^ (i + 1) := by rw [Nat.pow_succ, Nat.mul_comm]
  simp -implicitDefEqProofs [b1__law_power, gMul_dn (bg64 (show 2 < 2 ^ 64 by decide)) (bgn (i + 1) (Nat.pow_lt_pow_right (by decide) (Nat.lt_succ_self i)) (by omega)), e]
theorem power_ok (k : Nat) (hk : k ≤ 1000) : g__law_power [.d (dn k)] = .ok (.d (dn (2 ^ k))) [.d (dn k)] := by
  obtain ⟨a, h1, h2⟩ := for_run (t := bName 2) (b := b1__law_power) (fun a : Nat × Option D => [.d (dn k), .d (dn (2 ^ a.1)), od a.2]) (fun xs a => a.1 + xs.length = k)
    (fun x xs a h => ⟨_, (a.1 + 1, some x), by simp, .inl (power_turn k a.1 x (by rw [List.length_cons] at h; omega)), by rw [List.length_cons] at h; dsimp only; omega⟩) ((List.range k).map dn) (0, none) (by rw [List.length_map, List.length_range]; exact Nat.zero_add k)
  have e : a.1 = k := by simpa using h2
  rw [e] at h1
  have h1 : forR (bName 2) b1__law_power ((List.range k).map dn) [.d (dn k), .d (dn 1), .no] = .nx [.d (dn k), .d (dn (2 ^ k)), od a.2] := h1
  simp -implicitDefEqProofs [g__law_power, b__law_power, r1K2_dn (show k < 2 ^ 62 by omega), h1]
/-- divided_of -/
def dvI (a o part p : Nat) (s : Option D) : Rho := [.d (dn p), .d (dn o), .d (dn part), .d (dg o), od s]
theorem dv_cond (a o part p : Nat) (s : Option D) : c1_divided_of (dvI a o part p s) = .ok (decide (bl o ≤ bl p)) (dvI a o part p s) := by
  simp -implicitDefEqProofs [c1_divided_of, dvI, degree_of_ok, dg_ge]
theorem dv_turn (a o part p : Nat) (s : Option D) (h : bl o ≤ bl p) (hp : bl p ≤ 100) (hpa : part < 2 ^ 200) : b2_divided_of (dvI a o part p s) = .nx (dvI a o (part ^^^ 2 ^ (bl p - bl o)) (p ^^^ o * 2 ^ (bl p - bl o)) (some (dn (bl p - bl o)))) := by
  have ho : o < 2 ^ 200 := bl_le.mp (by omega)
  simp -implicitDefEqProofs [b2_divided_of, dvI, degree_of_ok, dg_sub h, gShl_dn (show bl p - bl o ≤ 2097152 by omega) (bgl ho), gShl_dn (show bl p - bl o ≤ 2097152 by omega) (bg64 (show 1 < 2 ^ 64 by decide))]
theorem divided_of_ok (a o : Nat) (ho : o ≠ 0) (ha : bl a ≤ 100) : g_divided_of [.d (dn a), .d (dn o)] = .ok (.d (.tuple [dn (dv a o).1, dn (dv a o).2])) [.d (dn a), .d (dn o)] := by
  obtain ⟨x, h1, h2⟩ := while_run (c := c1_divided_of) (b := b2_divided_of) (fun x : Nat × Nat × Option D => dvI a o x.1 x.2.1 x.2.2) (fun x => a = ml o x.1 ^^^ x.2.1 ∧ bl x.2.1 ≤ 100 ∧ x.1 < 2 ^ 200) (fun x => a = ml o x.1 ^^^ x.2.1 ∧ bl x.2.1 < bl o) (fun x => bl x.2.1)
    (fun x ⟨h1, h2, h3⟩ => by
      obtain ⟨part, p, s⟩ := x
      dsimp only at h1 h2 h3 ⊢
      rw [dv_cond]
      by_cases hc : bl o ≤ bl p
      · refine .inr ⟨by rw [decide_eq_true hc], (_, _, _), dv_turn a o part p s hc h2 h3, ⟨?_, ?_, ?_⟩, step_lt ho (by omega)⟩
        · dsimp only
          rw [ml_xor_right, ml_pow, xor_mid, Nat.xor_comm (o * _) (o * _), Nat.xor_self, Nat.xor_zero]
          exact h1
        · have := step_lt ho (show ¬ bl p < bl o by omega)
          dsimp only; omega
        · exact Nat.xor_lt_two_pow h3 (Nat.pow_lt_pow_right (by decide) (by omega))
      · exact .inl ⟨by rw [decide_eq_false hc], h1, by omega⟩) fuel (0, a, none) ⟨by rw [ml_zero, Nat.zero_xor], ha, Nat.two_pow_pos _⟩ (by unfold fuel; dsimp only; omega)
  obtain ⟨part, p, s⟩ := x
  dsimp only at h1 h2
  have e := dv_eq ho h2.1 h2.2
  have h1 : whileR c1_divided_of b2_divided_of fuel [.d (dn a), .d (dn o), .d (dn 0), .d (dg o), .no] = .nx [.d (dn p), .d (dn o), .d (dn part), .d (dg o), od s] := h1
  simp -implicitDefEqProofs [g_divided_of, b_divided_of, degree_of_ok, h1, ← e]
theorem rest_of_ok (a o : Nat) (ho : o ≠ 0) (ha : bl a ≤ 100) : g_rest_of [.d (dn a), .d (dn o)] = .ok (.d (dn (rm a o))) [.d (dn a), .d (dn o)] := by
  simp -implicitDefEqProofs [g_rest_of, b_rest_of, divided_of_ok a o ho ha, rm]
/-- product_of -/
def prI (a b f : Nat) : Rho := [.d (dn a), .d (dn b), .d (dn f)]
theorem pr_cond (a b f : Nat) : c1_product_of (prI a b f) = .ok (decide (b ≠ 0)) (prI a b f) := by
  simp -implicitDefEqProofs [c1_product_of, prI]
theorem pr_turn (a b f : Nat) (ha : a < 2 ^ 200) : b2_product_of (prI a b f) = .nx (prI (2 * a) (b / 2) (f ^^^ (if b % 2 = 1 then a else 0))) := by
  have e : a * 2 ^ 1 = 2 * a := by rw [Nat.pow_one, Nat.mul_comm]
  by_cases h : b % 2 = 1
  · simp -implicitDefEqProofs [b2_product_of, prI, gMod_dn (show 0 < 2 by decide), h, gShl_dn (show 1 ≤ 2097152 by decide) (bgl ha), Nat.mul_comm a 2]
  · simp -implicitDefEqProofs [b2_product_of, prI, gMod_dn (show 0 < 2 by decide), h, gShl_dn (show 1 ≤ 2097152 by decide) (bgl ha), Nat.mul_comm a 2]
theorem product_of_ok (a b : Nat) (ha : bl a ≤ 80) (hb : bl b ≤ 80) : g_product_of [.d (dn a), .d (dn b)] = .ok (.d (dn (ml a b))) [.d (dn a), .d (dn b)] := by
  obtain ⟨x, h1, h2⟩ := while_run (c := c1_product_of) (b := b2_product_of) (fun x : Nat × Nat × Nat => prI x.1 x.2.1 x.2.2) (fun x => ml a b = x.2.2 ^^^ ml x.1 x.2.1 ∧ bl x.1 + bl x.2.1 ≤ 160) (fun x => x.2.2 = ml a b) (fun x => bl x.2.1)
    (fun x ⟨h1, h2⟩ => by
      obtain ⟨p, q, f⟩ := x
      dsimp only at h1 h2 ⊢
      rw [pr_cond]
      by_cases hc : q = 0
      · subst hc
        refine .inl ⟨rfl, ?_⟩
        rw [ml_zero, Nat.xor_zero] at h1
        exact h1.symm
      · have hp : p < 2 ^ 200 := bl_le.mp (by omega)
        have hh := bl_half q
        have pq := bl_pos hc
        refine .inr ⟨by rw [decide_eq_true hc], (_, _, _), pr_turn p q f hp, ⟨?_, ?_⟩, by dsimp only; omega⟩
        · dsimp only
          rw [h1, ml_eq p q, ml_two_left, Nat.xor_assoc]
        · dsimp only
          by_cases pz : p = 0
          · subst pz; rw [Nat.mul_zero, bl_zero] at *; omega
          · rw [bl_two pz]; omega) fuel (a, b, 0) ⟨by rw [Nat.zero_xor], by dsimp only; omega⟩ (by unfold fuel; dsimp only; omega)
  obtain ⟨p, q, f⟩ := x
  dsimp only at h1 h2
  have h1 : whileR c1_product_of b2_product_of fuel [.d (dn a), .d (dn b), .d (dn 0)] = .nx [.d (dn p), .d (dn q), .d (dn f)] := h1
  simp -implicitDefEqProofs [g_product_of, b_product_of, h1, h2]
theorem bl_ml_le (a b : Nat) : bl (ml a b) ≤ bl a + bl b := by
  by_cases ha : a = 0
  · subst ha; rw [ml_zero_left, bl_zero]; omega
  · by_cases hb : b = 0
    · subst hb; rw [ml_zero, bl_zero]; omega
    · have := (bl_ml ha hb).1; omega
/-- power_by -/
def pwI (n p f b : Nat) : Rho := [.d (dn n), .d (dn p), .d (dn f), .d (dn b)]
theorem pw_cond (n p f b : Nat) : c1_power_by (pwI n p f b) = .ok (decide (n ≠ 0)) (pwI n p f b) := by
  simp -implicitDefEqProofs [c1_power_by, pwI]
theorem pw_turn (n p f b : Nat) (hp : p ≠ 0) (hp2 : bl p ≤ 50) (hf : bl f ≤ 50) (hb : bl b ≤ 50) : b2_power_by (pwI n p f b) = .nx (pwI (n / 2) p (if n % 2 = 1 then rm (ml f b) p else f) (rm (ml b b) p)) := by
  have l1 := bl_ml_le f b
  have l2 := bl_ml_le b b
  by_cases h : n % 2 = 1
  · simp -implicitDefEqProofs [b2_power_by, pwI, gMod_dn (show 0 < 2 by decide), h, gFdiv_dn (show 0 < 2 by decide) (show 2 < 2 ^ 64 by decide), product_of_ok f b (by omega) (by omega), product_of_ok b b (by omega) (by omega), rest_of_ok (ml f b) p hp (by omega), rest_of_ok (ml b b) p hp (by omega)]
  · simp -implicitDefEqProofs [b2_power_by, pwI, gMod_dn (show 0 < 2 by decide), h, gFdiv_dn (show 0 < 2 by decide) (show 2 < 2 ^ 64 by decide), product_of_ok f b (by omega) (by omega), product_of_ok b b (by omega) (by omega), rest_of_ok (ml f b) p hp (by omega), rest_of_ok (ml b b) p hp (by omega)]
theorem pw_add (a b : Nat) : ml (2 ^ a) (2 ^ b) = 2 ^ (a + b) := by rw [ml_pow, Nat.pow_add]
theorem bl_rm {a p : Nat} (hp : p ≠ 0) (h : bl p ≤ 50) : bl (rm a p) ≤ 50 := by
  have := rm_lt a hp; omega
theorem power_by_ok (n p : Nat) (hn : n < 2 ^ 200) (hp : p ≠ 0) (hp2 : bl p ≤ 50) : g_power_by [.d (dn n), .d (dn p)] = .ok (.d (dn (rm (2 ^ n) p))) [.d (dn n), .d (dn p)] := by
  obtain ⟨x, h1, h2⟩ := while_run (c := c1_power_by) (b := b2_power_by) (fun x : Nat × Nat × Nat => pwI x.1 p x.2.1 x.2.2)
    (fun x => (∃ e k, Cg p x.2.1 (2 ^ e) ∧ Cg p x.2.2 (2 ^ k) ∧ e + k * x.1 = n) ∧ bl x.2.1 < bl p ∧ bl x.2.2 < bl p) (fun x => x.2.1 = rm (2 ^ n) p) (fun x => bl x.1)
    (fun x ⟨⟨e, k, i1, i2, i3⟩, h2, h3⟩ => by
      obtain ⟨m, f, b⟩ := x
      dsimp only at i1 i2 i3 h2 h3 ⊢
      rw [pw_cond]
      by_cases hc : m = 0
      · subst hc
        rw [Nat.mul_zero, Nat.add_zero] at i3
        subst i3
        exact .inl ⟨rfl, rm_eq hp i1 h2⟩
      · have hh := bl_half m
        have pm := bl_pos hc
        refine .inr ⟨by rw [decide_eq_true hc], (_, _, _), pw_turn m p f b hp hp2 (by omega) (by omega), ⟨?_, ?_, rm_lt _ hp⟩, by dsimp only; omega⟩
        · have sq : Cg p (rm (ml b b) p) (2 ^ (k + k)) := by
            rw [← pw_add]; exact (Cg.rm _ hp).trans (i2.mul2 i2)
          by_cases h : m % 2 = 1
          · refine ⟨e + k, k + k, ?_, sq, ?_⟩
            · show Cg p (if m % 2 = 1 then rm (ml f b) p else f) _
              rw [if_pos h, ← pw_add]
              exact (Cg.rm _ hp).trans (i1.mul2 i2)
            · dsimp only
              have q : m = 2 * (m / 2) + 1 := by omega
              rw [← i3]
              conv => rhs; rw [q]
              rw [Nat.mul_add, Nat.mul_one, ← Nat.mul_assoc, Nat.mul_two]
              generalize (k + k) * (m / 2) = z
              omega
          · refine ⟨e, k + k, ?_, sq, ?_⟩
            · show Cg p (if m % 2 = 1 then rm (ml f b) p else f) _
              rw [if_neg h]; exact i1
            · dsimp only
              have q : m = 2 * (m / 2) := by omega
              rw [← i3]
              conv => rhs; rw [q]
              rw [← Nat.mul_assoc, Nat.mul_two]
        · show bl (if m % 2 = 1 then rm (ml f b) p else f) < bl p
          split
          · exact rm_lt _ hp
          · exact h2) fuel (n, rm 1 p, rm 2 p) ⟨⟨0, 1, Cg.rm 1 hp, Cg.rm 2 hp, by dsimp only; omega⟩, rm_lt _ hp, rm_lt _ hp⟩ (by have := bl_le.mpr hn; unfold fuel; dsimp only; omega)
  obtain ⟨m, f, b⟩ := x
  dsimp only at h1 h2
  have h1 : whileR c1_power_by b2_power_by fuel [.d (dn n), .d (dn p), .d (dn (rm 1 p)), .d (dn (rm 2 p))] = .nx [.d (dn m), .d (dn p), .d (dn f), .d (dn b)] := h1
  simp -implicitDefEqProofs [g_power_by, b_power_by, rest_of_ok 1 p hp (by decide), rest_of_ok 2 p hp (by decide), h1, h2]
/-- the checks -/
theorem check_poly_ok (p : Nat) (h : p < 2 ^ 64) : g_check_poly [.d (dn p)] = .ok (.d .none) [.d (dn p)] := by
  have e : p < 1 * 2 ^ 64 := by omega
  simp -implicitDefEqProofs [g_check_poly, b_check_poly, gShl_dn (show 64 ≤ 2097152 by decide) (bg64 (show 1 < 2 ^ 64 by decide)), h]
theorem check_poly_big (p : Nat) (h : 2 ^ 64 ≤ p) : g_check_poly [.d (dn p)] = .ex 0 [.d (dn p)] := by
  have e : ¬ p < 18446744073709551616 := by omega
  simp -implicitDefEqProofs [g_check_poly, b_check_poly, gShl_dn (show 64 ≤ 2097152 by decide) (bg64 (show 1 < 2 ^ 64 by decide)), e]
theorem neg_le : gLe (dn 0) (.int (-1)) = some (.d (.bool false)) := rfl
theorem check_poly_neg : g_check_poly [.d (.int (-1))] = .ex 0 [.d (.int (-1))] := by
  simp -implicitDefEqProofs [g_check_poly, b_check_poly, gShl_dn (show 64 ≤ 2097152 by decide) (bg64 (show 1 < 2 ^ 64 by decide)), neg_le]
theorem check_other_ok (p : Nat) (h : p < 2 ^ 64) (h0 : p ≠ 0) : g_check_other [.d (dn p)] = .ok (.d .none) [.d (dn p)] := by
  simp -implicitDefEqProofs [g_check_other, b_check_other, check_poly_ok p h, h0]
theorem check_other_zero : g_check_other [.d (dn 0)] = .ex 0 [.d (dn 0)] := by
  simp -implicitDefEqProofs [g_check_other, b_check_other, check_poly_ok 0 (by decide)]
theorem check_other_big (p : Nat) (h : 2 ^ 64 ≤ p) : g_check_other [.d (dn p)] = .ex 0 [.d (dn p)] := by
  simp -implicitDefEqProofs [g_check_other, b_check_other, check_poly_big p h]
theorem check_other_neg : g_check_other [.d (.int (-1))] = .ex 0 [.d (.int (-1))] := by
  simp -implicitDefEqProofs [g_check_other, b_check_other, check_poly_neg]
end K00
set_option maxHeartbeats 400000
namespace K00
open PySem PySem.Spec PyProof.Rows L2 EV GF
/-! ### the program's weight, mirrored, common -/
theorem weight_of_ok (p : Nat) (hp : bl p ≤ 100) : g_weight_of [.d (dn p)] = .ok (.d (dn (wt p (bl p)))) [.d (dn p)] := by
  have l := lc_map (t := bName 1) (c := mB true) (e := mBin gMod (mBin gShr (mVar 0) (mVar 1)) (mC (dn 2))) (vs := [1]) (ρ0 := [.d (dn p), .no]) dn (fun _ => true) (fun i => dn (p / 2 ^ i % 2)) (List.range (bl p)) []
    (fun i _ => ⟨[.d (dn p), .d (dn i)], by simp, by simp, by simp, by simp, fun _ => ⟨.d (dn (p / 2 ^ i % 2)), by simp -implicitDefEqProofs [gMod_dn (show 0 < 2 by decide)], rfl⟩⟩) (by rw [List.length_range]; unfold szL; simp; omega)
  have e : ((List.range (bl p)).filter fun _ => true).map (fun i => dn (p / 2 ^ i % 2)) = il ((List.range (bl p)).map fun i => p / 2 ^ i % 2) := by
    unfold il
    rw [List.map_map, List.filter_eq_self.mpr fun _ _ => rfl]
    rfl
  rw [e, List.nil_append] at l
  simp -implicitDefEqProofs [g_weight_of, b_weight_of, gBits_dn, r1K2_dn (show bl p < 2 ^ 62 by omega), l, gSum_il, wt]
theorem dz_add (p : Nat) : gAdd (dg p) (dn 1) = some (.d (dn (bl p))) := by
  show some (Vl.d (.int (((bl p : Int) - 1) + ((1 : Nat) : Int)))) = some (Vl.d (.int (bl p : Int)))
  congr 3
  omega
theorem mirrored_of_ok (p : Nat) (hp : bl p ≤ 100) : g_mirrored_of [.d (dn p)] = .ok (.d (dn (mv p (bl p)))) [.d (dn p)] := by
  obtain ⟨a, h1, h2⟩ := for_run (t := bName 2) (b := b1_mirrored_of) (fun a : Nat × Option D => [.d (dn p), .d (dn (mv p a.1)), od a.2]) (fun xs a => xs = ((List.range' a.1 (bl p - a.1)).map dn) ∧ a.1 ≤ bl p)
    (fun x xs a ⟨h, hl⟩ => by
      have hlt : a.1 < bl p := by
        refine Nat.lt_of_le_of_ne hl fun z => ?_
        rw [z, Nat.sub_self] at h; cases h
      obtain ⟨m, hm⟩ : ∃ m, bl p - a.1 = m + 1 := ⟨bl p - a.1 - 1, by omega⟩
      rw [hm, List.range'_succ, List.map_cons] at h
      injection h with h1 h2
      subst h1
      have b1 : Bg ((mv p a.1 : Nat) : Int) := by
        have q : ∀ k, mv p k < 2 ^ k := fun k => by
          induction k with
          | zero => exact Nat.one_pos
          | succ k ih => unfold mv; rw [Nat.pow_succ]; omega
        exact bgn a.1 (q a.1) (by omega)
      refine ⟨[.d (dn p), .d (dn (mv p a.1)), .d (dn a.1)], (a.1 + 1, some (dn a.1)), by simp, .inl ?_, by rw [h2]; congr 2; dsimp only; omega, hlt⟩
      simp -implicitDefEqProofs [b1_mirrored_of, gMod_dn (show 0 < 2 by decide), gMul_dn (bg64 (show 2 < 2 ^ 64 by decide)) b1, mv]) ((List.range (bl p)).map dn) (0, none) ⟨by rw [List.range_eq_range']; rfl, Nat.zero_le _⟩
  have e : a.1 = bl p := by
    have h3 := h2.1
    have h4 : (List.range' a.1 (bl p - a.1)).map dn = [] := h3.symm
    have h5 := congrArg List.length h4
    rw [List.length_map, List.length_range'] at h5
    have := h2.2
    have : ([] : List D).length = 0 := rfl
    omega
  rw [e] at h1
  have h1 : forR (bName 2) b1_mirrored_of ((List.range (bl p)).map dn) [.d (dn p), .d (dn 0), .no] = .nx [.d (dn p), .d (dn (mv p (bl p))), od a.2] := h1
  simp -implicitDefEqProofs [g_mirrored_of, b_mirrored_of, degree_of_ok, dz_add, r1K2_dn (show bl p < 2 ^ 62 by omega), h1]
theorem common_of_ok (a b : Nat) (ha : bl a ≤ 100) (hb : bl b ≤ 100) : g_common_of [.d (dn a), .d (dn b)] = .ok (.d (dn (gc a b))) [.d (dn a), .d (dn b)] := by
  obtain ⟨x, h1, h2⟩ := while_run (c := c1_common_of) (b := b2_common_of) (fun x : Nat × Nat => [.d (dn x.1), .d (dn x.2)]) (fun x => gc x.1 x.2 = gc a b ∧ bl x.1 ≤ 100 ∧ bl x.2 ≤ 100) (fun x => x.1 = gc a b) (fun x => bl x.2)
    (fun x ⟨h1, h2, h3⟩ => by
      obtain ⟨p, q⟩ := x
      dsimp only at h1 h2 h3 ⊢
      have ec : c1_common_of [.d (dn p), .d (dn q)] = .ok (decide (q ≠ 0)) [.d (dn p), .d (dn q)] := by simp -implicitDefEqProofs [c1_common_of]
      rw [ec]
      by_cases hc : q = 0
      · subst hc
        exact .inl ⟨rfl, h1⟩
      · have r := rm_lt p hc
        exact .inr ⟨by rw [decide_eq_true hc], (q, rm p q), by simp -implicitDefEqProofs [b2_common_of, rest_of_ok p q hc h2], ⟨by rw [← h1]; exact (gc_eq hc).symm, h3, by dsimp only; omega⟩, r⟩) fuel (a, b) ⟨rfl, ha, hb⟩ (by unfold fuel; dsimp only; omega)
  obtain ⟨p, q⟩ := x
  dsimp only at h1 h2
  simp -implicitDefEqProofs [g_common_of, b_common_of, h1, h2]
/-! ### the law's own -/
theorem ldeg_ok (p : Nat) (hp : bl p < 200) : g__law_degree [.d (dn p)] = .ok (.d (dg p)) [.d (dn p)] := by
  obtain ⟨x, h1, h2⟩ := for_brk (t := bName 2) (b := b1__law_degree) (fun x : Nat × Nat × Option D => [.d (dn x.1), .d (.int ((x.2.1 : Int) - 1)), od x.2.2]) (fun x => x.2.1 + bl x.1 = bl p) (fun x => x.2.1 = bl p) (fun x => bl x.1)
    (fun y x h => by
      obtain ⟨q, s, o⟩ := x
      dsimp only at h
      by_cases hc : q = 0
      · subst hc
        refine ⟨[.d (dn 0), .d (.int ((s : Int) - 1)), .d y], (0, s, some y), by simp, .inl ⟨by simp -implicitDefEqProofs [b1__law_degree], ?_⟩⟩
        rw [bl_zero] at h; exact h
      · have hh := bl_half q
        have pq := bl_pos hc
        have e1 : gAdd (.int ((s : Int) - 1)) (dn 1) = some (.d (.int (((s + 1 : Nat) : Int) - 1))) := by
          show some (Vl.d (.int (((s : Int) - 1) + ((1 : Nat) : Int)))) = _
          congr 3
          omega
        refine ⟨[.d (dn q), .d (.int ((s : Int) - 1)), .d y], (q / 2, s + 1, some y), by simp, .inr ⟨by simp -implicitDefEqProofs only [b1__law_degree, od_d, mThen_eq, mIfS_eq, mTst_eq, mBin_eq, mVar_eq, List.getElem?_cons_zero, slV_d, bK_ok, mC_eq, bK2_ok, rd_d, o2_some, gEq_dn, oOf_some, hc, decide_false, tK1_ok, ifK_ok, if_false, mNx_eq, sK_nx, mSet_eq, gFdiv_dn (show 0 < 2 by decide) (show 2 < 2 ^ 64 by decide), seK_ok, storeV_d, maySl_d, if_true, List.set_cons_zero, opS_some, List.getElem?_cons_succ, e1, List.set_cons_succ, Bool.false_eq_true, reduceIte], ?_, ?_⟩⟩
        · dsimp only; omega
        · dsimp only; omega) ((List.range 200).map dn) (p, 0, none) (by dsimp only; omega) (by rw [List.length_map, List.length_range]; exact hp)
  obtain ⟨q, s, o⟩ := x
  dsimp only at h1 h2
  subst h2
  have h1 : forR (bName 2) b1__law_degree ((List.range 200).map dn) [.d (dn p), .d (.int (-((1 : Nat) : Int))), .no] = .nx [.d (dn q), .d (dg p), od o] := h1
  simp -implicitDefEqProofs [g__law_degree, b__law_degree, r1K2_dn (show 200 < 2 ^ 62 by decide)]
  simp at h1
  rw [h1]
  simp -implicitDefEqProofs
theorem ltimes_ok (a b : Nat) (ha : bl a ≤ 80) (hb : bl b ≤ 80) : g__law_times [.d (dn a), .d (dn b)] = .ok (.d (dn (ml a b))) [.d (dn a), .d (dn b)] := by
  obtain ⟨x, h1, h2⟩ := for_brk (t := bName 3) (b := b1__law_times) (fun x : Nat × Nat × Nat × Option D => [.d (dn x.1), .d (dn x.2.1), .d (dn x.2.2.1), od x.2.2.2]) (fun x => ml a b = x.2.2.1 ^^^ ml x.1 x.2.1 ∧ bl x.1 + bl x.2.1 ≤ 160) (fun x => x.2.2.1 = ml a b) (fun x => bl x.2.1)
    (fun y x ⟨h1, h2⟩ => by
      obtain ⟨p, q, f, o⟩ := x
      dsimp only at h1 h2
      by_cases hc : q = 0
      · subst hc
        refine ⟨[.d (dn p), .d (dn 0), .d (dn f), .d y], (p, 0, f, some y), by simp, .inl ⟨by simp -implicitDefEqProofs [b1__law_times], ?_⟩⟩
        rw [ml_zero, Nat.xor_zero] at h1
        exact h1.symm
      · have hp : p < 2 ^ 200 := bl_le.mp (by omega)
        have hh := bl_half q
        have pq := bl_pos hc
        refine ⟨[.d (dn p), .d (dn q), .d (dn f), .d y], (2 * p, q / 2, f ^^^ (if q % 2 = 1 then p else 0), some y), by simp, .inr ⟨?_, ⟨?_, ?_⟩, by dsimp only; omega⟩⟩
        · by_cases h : q % 2 = 1
          · simp -implicitDefEqProofs [b1__law_times, gMod_dn (show 0 < 2 by decide), hc, h, gMul_dn (bg64 (show 2 < 2 ^ 64 by decide)) (bgl hp), gFdiv_dn (show 0 < 2 by decide) (show 2 < 2 ^ 64 by decide)]
          · simp -implicitDefEqProofs [b1__law_times, gMod_dn (show 0 < 2 by decide), hc, h, gMul_dn (bg64 (show 2 < 2 ^ 64 by decide)) (bgl hp), gFdiv_dn (show 0 < 2 by decide) (show 2 < 2 ^ 64 by decide)]
        · dsimp only
          rw [h1, ml_eq p q, ml_two_left, Nat.xor_assoc]
        · dsimp only
          by_cases pz : p = 0
          · subst pz; rw [Nat.mul_zero, bl_zero] at *; omega
          · rw [bl_two pz]; omega) ((List.range 200).map dn) (a, b, 0, none) ⟨by rw [Nat.zero_xor], by dsimp only; omega⟩ (by rw [List.length_map, List.length_range]; dsimp only; omega)
  obtain ⟨p, q, f, o⟩ := x
  dsimp only at h1 h2
  subst h2
  simp at h1
  simp -implicitDefEqProofs [g__law_times, b__law_times, r1K2_dn (show 200 < 2 ^ 62 by decide), h1]
end K00
set_option maxHeartbeats 400000
namespace K00
open PySem PySem.Spec PyProof.Rows L2 EV GF
def df (a b : Nat) : D := .int ((a : Int) - (b : Int))
theorem dg_df (a b : Nat) : gSub (dg a) (dg b) = some (.d (df (bl a) (bl b))) := by
  show some (Vl.d (.int (((bl a : Int) - 1) - ((bl b : Int) - 1)))) = some (Vl.d (.int ((bl a : Int) - (bl b : Int))))
  congr 3
  omega
theorem df_lt (a b : Nat) : gLt (df a b) (dn 0) = some (.d (.bool (decide (a < b)))) := by
  show some (Vl.d (.bool (decide (((a : Int) - (b : Int)) < ((0 : Nat) : Int))))) = _
  congr 3
  exact decide_eq_decide.mpr (by omega)
theorem df_dn {a b : Nat} (h : b ≤ a) : df a b = dn (a - b) := by
  show PyData.int ((a : Int) - (b : Int)) = .int ((a - b : Nat) : Int)
  congr 1
  omega
/-- _law_split -/
def spI (p o part : Nat) (t s : Sl) : Rho := [.d (dn p), .d (dn o), .d (dn part), .d (dg o), t, s]
theorem sp_stop (p o part : Nat) (y : D) (s : Option D) (h : bl p < bl o) (hp : bl p < 200) : b1__law_split (spI p o part (.d y) (od s)) = .bk (spI p o part (.d y) (od (some (df (bl p) (bl o))))) := by
  simp -implicitDefEqProofs [b1__law_split, spI, ldeg_ok p hp, dg_df, df_lt, h]
theorem sp_turn (p o part : Nat) (y : D) (s : Option D) (h : bl o ≤ bl p) (hp : bl p ≤ 100) : b1__law_split (spI p o part (.d y) (od s)) = .nx (spI (p ^^^ o * 2 ^ (bl p - bl o)) o (part ^^^ 2 ^ (bl p - bl o)) (.d y) (od (some (df (bl p) (bl o))))) := by
  have ho : o < 2 ^ 200 := bl_le.mp (by omega)
  have h2 : ¬ bl p < bl o := by omega
  have b2 : Bg ((2 ^ (bl p - bl o) : Nat) : Int) := bgn (bl p - bl o + 1) (Nat.pow_lt_pow_right (by decide) (Nat.lt_succ_self _)) (by omega)
  simp -implicitDefEqProofs [b1__law_split, spI, ldeg_ok p (by omega), dg_df, df_lt, h2]
  simp -implicitDefEqProofs [df_dn h, power_ok (bl p - bl o) (by omega), gMul_dn (bgl ho) b2]
theorem split_ok (a o : Nat) (ho : o ≠ 0) (ha : bl a ≤ 100) (hb : bl o ≤ 100) : g__law_split [.d (dn a), .d (dn o)] = .ok (.n (.lst [dn (dv a o).1, dn (dv a o).2])) [.d (dn a), .d (dn o)] := by
  obtain ⟨x, h1, h2⟩ := for_brk (t := bName 4) (b := b1__law_split) (fun x : Nat × Nat × Option D × Option D => spI x.1 o x.2.1 (od x.2.2.1) (od x.2.2.2)) (fun x => a = ml o x.2.1 ^^^ x.1 ∧ bl x.1 ≤ 100) (fun x => a = ml o x.2.1 ^^^ x.1 ∧ bl x.1 < bl o) (fun x => bl x.1)
    (fun y x ⟨h1, h2⟩ => by
      obtain ⟨p, part, t, s⟩ := x
      dsimp only at h1 h2
      by_cases hc : bl o ≤ bl p
      · refine ⟨spI p o part (.d y) (od s), (_, _, some y, _), by simp [spI], .inr ⟨sp_turn p o part y s hc h2, ⟨?_, ?_⟩, step_lt ho (by omega)⟩⟩
        · dsimp only
          rw [ml_xor_right, ml_pow, xor_mid, Nat.xor_comm (o * _) (o * _), Nat.xor_self, Nat.xor_zero]
          exact h1
        · have := step_lt ho (show ¬ bl p < bl o by omega)
          dsimp only; omega
      · exact ⟨spI p o part (.d y) (od s), (_, _, some y, _), by simp [spI], .inl ⟨sp_stop p o part y s (by omega) (by omega), h1, by dsimp only; omega⟩⟩) ((List.range 200).map dn) (a, 0, none, none) ⟨by rw [ml_zero, Nat.zero_xor], ha⟩ (by rw [List.length_map, List.length_range]; dsimp only; omega)
  obtain ⟨p, part, t, s⟩ := x
  dsimp only at h1 h2
  have e := dv_eq ho h2.1 h2.2
  have h1 : forR (bName 4) b1__law_split ((List.range 200).map dn) [.d (dn a), .d (dn o), .d (dn 0), .d (dg o), .no, .no] = .nx [.d (dn p), .d (dn o), .d (dn part), .d (dg o), od t, od s] := h1
  simp -implicitDefEqProofs [g__law_split, b__law_split, ldeg_ok o (by omega), r1K2_dn (show 200 < 2 ^ 62 by decide), ← e, h1]
theorem lrest_ok (a o : Nat) (ho : o ≠ 0) (ha : bl a ≤ 100) (hb : bl o ≤ 100) : g__law_rest [.d (dn a), .d (dn o)] = .ok (.d (dn (rm a o))) [.d (dn a), .d (dn o)] := by
  simp -implicitDefEqProofs [g__law_rest, b__law_rest, split_ok a o ho ha hb, rm]
theorem lcommon_ok (a b : Nat) (ha : bl a ≤ 100) (hb : bl b ≤ 100) : g__law_common [.d (dn a), .d (dn b)] = .ok (.d (dn (gc a b))) [.d (dn a), .d (dn b)] := by
  obtain ⟨x, h1, h2⟩ := for_brk (t := bName 2) (b := b1__law_common) (fun x : Nat × Nat × Option D => [.d (dn x.1), .d (dn x.2.1), od x.2.2]) (fun x => gc x.1 x.2.1 = gc a b ∧ bl x.1 ≤ 100 ∧ bl x.2.1 ≤ 100) (fun x => x.1 = gc a b) (fun x => bl x.2.1)
    (fun y x ⟨h1, h2, h3⟩ => by
      obtain ⟨p, q, o⟩ := x
      dsimp only at h1 h2 h3
      by_cases hc : q = 0
      · subst hc
        exact ⟨[.d (dn p), .d (dn 0), .d y], (p, 0, some y), by simp, .inl ⟨by simp -implicitDefEqProofs [b1__law_common], h1⟩⟩
      · have r := rm_lt p hc
        exact ⟨[.d (dn p), .d (dn q), .d y], (q, rm p q, some y), by simp, .inr ⟨by simp -implicitDefEqProofs [b1__law_common, hc, lrest_ok p q hc h2 h3], ⟨by rw [← h1]; exact (gc_eq hc).symm, h3, by dsimp only; omega⟩, r⟩⟩) ((List.range 200).map dn) (a, b, none) ⟨rfl, ha, hb⟩ (by rw [List.length_map, List.length_range]; dsimp only; omega)
  obtain ⟨p, q, o⟩ := x
  dsimp only at h1 h2
  subst h2
  simp at h1
  simp -implicitDefEqProofs [g__law_common, b__law_common, r1K2_dn (show 200 < 2 ^ 62 by decide), h1]
theorem lpowered_ok (n p : Nat) (hn : n < 2 ^ 30) (hp : p ≠ 0) (hp2 : bl p ≤ 90) : g__law_powered [.d (dn n), .d (dn p)] = .ok (.d (dn (rm (2 ^ n) p))) [.d (dn n), .d (dn p)] := by
  obtain ⟨a, h1, h2⟩ := for_run (t := bName 3) (b := b1__law_powered) (fun a : Nat × Option D => [.d (dn n), .d (dn p), .d (dn (rm (2 ^ a.1) p)), od a.2]) (fun xs a => a.1 + xs.length = n)
    (fun x xs a h => by
      rw [List.length_cons] at h
      have l := rm_lt (2 ^ a.1) hp
      have b1 : rm (2 ^ a.1) p < 2 ^ 200 := bl_le.mp (by omega)
      have l2 : bl (2 * rm (2 ^ a.1) p) ≤ 100 := by
        by_cases z : rm (2 ^ a.1) p = 0
        · rw [z, Nat.mul_zero, bl_zero]; omega
        · rw [bl_two z]; omega
      have e : rm (2 * rm (2 ^ a.1) p) p = rm (2 ^ (a.1 + 1)) p := by
        refine rm_cg hp ?_
        have := (Cg.rm (2 ^ a.1) hp).mul 2
        rw [ml_comm, ml_comm (2 ^ a.1)] at this
        have t : ∀ z, ml 2 z = 2 * z := fun z => by
          have := ml_two_left 1 z
          rw [ml_one_left] at this
          exact this
        rw [t, t] at this
        rw [Nat.pow_succ, Nat.mul_comm (2 ^ a.1)]
        exact this
      refine ⟨[.d (dn n), .d (dn p), .d (dn (rm (2 ^ a.1) p)), .d x], (a.1 + 1, some x), by simp, .inl ?_, by dsimp only; omega⟩
      simp -implicitDefEqProofs [b1__law_powered, gMul_dn (bg64 (show 2 < 2 ^ 64 by decide)) (bgl b1), lrest_ok _ p hp l2 (by omega), e]) ((List.range n).map dn) (0, none) (by rw [List.length_map, List.length_range]; exact Nat.zero_add n)
  have e : a.1 = n := by simpa using h2
  rw [e] at h1
  have h1 : forR (bName 3) b1__law_powered ((List.range n).map dn) [.d (dn n), .d (dn p), .d (dn (rm 1 p)), .no] = .nx [.d (dn n), .d (dn p), .d (dn (rm (2 ^ n) p)), od a.2] := h1
  simp -implicitDefEqProofs [g__law_powered, b__law_powered, lrest_ok 1 p hp (by decide) (by omega), r1K2_dn (show n < 2 ^ 62 by omega), h1]
theorem lweight_ok (p : Nat) (hp : bl p ≤ 70) : g__law_weight [.d (dn p)] = .ok (.d (dn (wt p (bl p)))) [.d (dn p)] := by
  have l := lc_map (t := bName 1) (c := mB true) (e := mBin gMod (mCall gInt (mCons (mBin gFdiv (mVar 0) (mCallD 1 g__law_power (mCons (mVar 1) mNil))) mNil)) (mC (dn 2))) (vs := [1]) (ρ0 := [.d (dn p), .no]) dn (fun _ => true) (fun i => dn (p / 2 ^ i % 2)) (List.range 70) []
    (fun i hi => ⟨[.d (dn p), .d (dn i)], by simp, by simp, by simp, by simp, fun _ => ⟨.d (dn (p / 2 ^ i % 2)), by
      have := List.mem_range.mp hi
      simp -implicitDefEqProofs [power_ok i (by omega), gFdiv_big (a := p) (Nat.two_pow_pos i) (Nat.pow_lt_pow_right (by decide) (Nat.lt_succ_self i)) (show i.succ ≤ 9000 by omega), gMod_dn (show 0 < 2 by decide)], rfl⟩⟩) (by rw [List.length_range]; unfold szL; simp)
  have e : ((List.range 70).filter fun _ => true).map (fun i => dn (p / 2 ^ i % 2)) = il ((List.range 70).map fun i => p / 2 ^ i % 2) := by
    unfold il
    rw [List.map_map, List.filter_eq_self.mpr fun _ _ => rfl]
    rfl
  have e2 : ((List.range 70).map fun i => p / 2 ^ i % 2).sum = wt p (bl p) := wt_eq hp
  rw [e, List.nil_append] at l
  have l2 := gSum_il ((List.range 70).map fun i => p / 2 ^ i % 2)
  rw [e2] at l2
  generalize il ((List.range 70).map fun i => p / 2 ^ i % 2) = zs at l l2
  generalize hr : (List.range 70).map dn = rs at l
  simp -implicitDefEqProofs only [g__law_weight, b__law_weight, pad_def, List.length_cons, List.length_nil, List.cons_append, List.nil_append, mRet_eq, mCall_eq, mCons_eq, mLc_eq, mRng1_eq, mC_eq, mNil_eq, cK_ok, cK2_ok, r1K_ok, rdAll_cons, rd_d, raK_some, rdAll_nil, raK2_some, r1K2_dn (show 70 < 2 ^ 62 by decide), hr, lcK_ok]
  simp -implicitDefEqProofs [l, l2]
theorem lmirrored_ok (p : Nat) (hp : bl p ≤ 100) (h0 : p ≠ 0) : g__law_mirrored [.d (dn p)] = .ok (.d (dn (mv p (bl p)))) [.d (dn p)] := by
  have pp := bl_pos h0
  have l := lc_map (t := bName 2) (c := mTst (mBin gEq (mBin gMod (mCall gInt (mCons (mBin gFdiv (mVar 0) (mCallD 1 g__law_power (mCons (mVar 2) mNil))) mNil)) (mC (dn 2))) (mC (dn 1)))) (e := mCallD 1 g__law_power (mCons (mBin gSub (mVar 1) (mVar 2)) mNil)) (vs := [2]) (ρ0 := [.d (dn p), .d (dg p), .no]) dn (fun i => decide (p / 2 ^ i % 2 = 1)) (fun i => dn (2 ^ (bl p - 1 - i))) (List.range (bl p)) []
    (fun i hi => by
      have hl := List.mem_range.mp hi
      have es : gSub (dg p) (dn i) = some (.d (dn (bl p - 1 - i))) := by
        show some (Vl.d (.int (((bl p : Int) - 1) - (i : Int)))) = some (Vl.d (.int ((bl p - 1 - i : Nat) : Int)))
        congr 3
        omega
      refine ⟨[.d (dn p), .d (dg p), .d (dn i)], by simp, ?_, by simp, by simp, fun _ => ⟨.d (dn (2 ^ (bl p - 1 - i))), ?_, rfl⟩⟩
      · simp -implicitDefEqProofs [power_ok i (by omega), gFdiv_big (a := p) (Nat.two_pow_pos i) (Nat.pow_lt_pow_right (by decide) (Nat.lt_succ_self i)) (show i.succ ≤ 9000 by omega), gMod_dn (show 0 < 2 by decide)]
      · simp -implicitDefEqProofs [es, power_ok (bl p - 1 - i) (by omega)]) (by rw [List.length_range]; unfold szL; simp; omega)
  have e : ((List.range (bl p)).filter fun i => decide (p / 2 ^ i % 2 = 1)).map (fun i => dn (2 ^ (bl p - 1 - i))) = il (((List.range (bl p)).filter fun i => decide (p / 2 ^ i % 2 = 1)).map fun i => 2 ^ (bl p - 1 - i)) := by
    unfold il
    rw [List.map_map]
    rfl
  have l2 := gSum_il (((List.range (bl p)).filter fun i => decide (p / 2 ^ i % 2 = 1)).map fun i => 2 ^ (bl p - 1 - i))
  have e2 : (((List.range (bl p)).filter fun i => decide (p / 2 ^ i % 2 = 1)).map fun i => 2 ^ (bl p - 1 - i)).sum = mv p (bl p) := ms_eq p (bl p)
  rw [e2] at l2
  rw [e, List.nil_append] at l
  generalize il (((List.range (bl p)).filter fun i => decide (p / 2 ^ i % 2 = 1)).map fun i => 2 ^ (bl p - 1 - i)) = zs at l l2
  simp -implicitDefEqProofs [g__law_mirrored, b__law_mirrored, ldeg_ok p (by omega), dz_add, r1K2_dn (show bl p < 2 ^ 62 by omega), l, l2]
end K00
set_option maxHeartbeats 400000
namespace K00
open PySem PySem.Spec PyProof.Rows L2 EV GF
/-! ### draws -/
def lo (ds : List Nat) : Nat := ds.getLastD 0
abbrev dr (ds : List Nat) : List Nat := ds.dropLast
def Sml (ds : List Nat) : Prop := ∀ d ∈ ds, d < 1000
theorem Sml.dr {ds : List Nat} (h : Sml ds) : Sml (dr ds) := fun d hd => h d (List.dropLast_subset ds hd)
theorem Sml.lo {ds : List Nat} (h : Sml ds) : lo ds < 1000 := by
  unfold K00.lo
  rw [List.getLastD_eq_getLast?]
  cases e : ds.getLast? with
  | none => decide
  | some d => exact h d (List.mem_of_getLast? e)
theorem il_last (ds : List Nat) (h : ds ≠ []) : (il ds).getLast? = some (dn (lo ds)) := by
  unfold il lo
  rw [List.getLast?_map, List.getLastD_eq_getLast?]
  cases e : ds.getLast? with
  | none => exact absurd (List.getLast?_eq_none_iff.mp e) h
  | some d => rfl
theorem il_drop (ds : List Nat) : (il ds).dropLast = il (dr ds) := by
  unfold il
  rw [List.map_dropLast]
theorem next_ok (ds : List Nat) : g__law_next [.o .mut (.lst (il ds))] = .ok (.d (dn (lo ds))) [.o .mut (.lst (il (dr ds)))] := by
  cases ds with
  | nil => simp -implicitDefEqProofs [g__law_next, b__law_next, lo]
  | cons a l =>
    have e : (il (a :: l)).isEmpty = false := rfl
    simp -implicitDefEqProofs [g__law_next, b__law_next, e, il_last (a :: l) (by simp), il_drop]
theorem number_ok (i : Int) : g__law_number [.d (.int i)] = .ok (.d (dn i.natAbs)) [.d (.int i)] := by
  have e0 : gLt (.int i) (dn 0) = some (.d (.bool (decide (i < 0)))) := rfl
  have e1 : gSub (dn 0) (.int i) = some (.d (.int (0 - i))) := rfl
  by_cases h : i < 0
  · have e2 : PyData.int (0 - i) = dn i.natAbs := by
      show PyData.int (0 - i) = .int (i.natAbs : Int)
      congr 1; omega
    simp -implicitDefEqProofs [g__law_number, b__law_number, e0, e1, h]
    have e3 : PyData.int (-i) = dn i.natAbs := by rw [← e2, Int.zero_sub]
    simp -implicitDefEqProofs [e3]
  · have e2 : PyData.int i = dn i.natAbs := by
      show PyData.int i = .int (i.natAbs : Int)
      congr 1; omega
    simp -implicitDefEqProofs [g__law_number, b__law_number, e0, h]
    rw [← e2]
/-- the inner loop -/
def drI (ns : List Int) (ds : List Nat) (c : Sl) (r : Nat) (k o t : Sl) : Rho := [.scr ns, .o .own (.lst (il ds)), c, .d (dn r), k, o, t]
theorem in_stop (ns : List Int) (ds : List Nat) (c o t : Sl) (y : D) : b1__law_draws (drI ns ds c 0 (.d y) o t) = .bk (drI ns ds c 0 (.d y) o t) := by
  simp -implicitDefEqProofs [b1__law_draws, drI]
theorem in_turn (ns : List Int) (ds : List Nat) (c o t : Sl) (r : Nat) (y : D) (h : r ≠ 0) (hl : ds.length < szL) : b1__law_draws (drI ns ds c r (.d y) o t) = .nx (drI ns (ds ++ [r % 1000]) c (r / 1000) (.d y) o t) := by
  simp -implicitDefEqProofs [b1__law_draws, drI, h, gMod_dn (show 0 < 1000 by decide), gFdiv_dn (show 0 < 1000 by decide) (show 1000 < 2 ^ 64 by decide), hl, il_app, il]
theorem Sml.app {a b : List Nat} (h : Sml a) (h2 : Sml b) : Sml (a ++ b) := fun d hd => (List.mem_append.mp hd).elim (h d) (h2 d)
theorem sml1 {n : Nat} (h : n < 1000) : Sml [n] := fun d hd => by rw [List.mem_singleton.mp hd]; exact h
theorem in_loop (ns : List Int) (ds : List Nat) (c o t : Sl) (r : Nat) (k : Option D) (hs : Sml ds) (hl : ds.length ≤ 100000) :
    ∃ ds' r' k', forR (bName 4) b1__law_draws ((List.range 60).map dn) (drI ns ds c r (od k) o t) = .nx (drI ns ds' c r' (od k') o t) ∧ Sml ds' ∧ ds'.length ≤ ds.length + 60 := by
  obtain ⟨x, h1, h2, h3⟩ := for_gen (t := bName 4) (b := b1__law_draws) (fun x : List Nat × Nat × Option D => drI ns x.1 c x.2.1 (od x.2.2) o t) (fun xs x => Sml x.1 ∧ x.1.length + xs.length ≤ ds.length + 60) (fun x => Sml x.1 ∧ x.1.length ≤ ds.length + 60) (fun x ⟨h1, h2⟩ => ⟨h1, by simpa using h2⟩)
    (fun y xs x ⟨h1, h2⟩ => by
      obtain ⟨es, q, k2⟩ := x
      dsimp only at h1 h2
      rw [List.length_cons] at h2
      by_cases hq : q = 0
      · subst hq
        exact ⟨drI ns es c 0 (.d y) o t, (es, 0, some y), by simp [drI], .inl ⟨in_stop ns es c o t y, h1, by dsimp only; omega⟩⟩
      · exact ⟨drI ns es c q (.d y) o t, (es ++ [q % 1000], q / 1000, some y), by simp [drI], .inr ⟨.inl (in_turn ns es c o t q y hq (by unfold szL; omega)), h1.app (sml1 (Nat.mod_lt _ (by decide))), by dsimp only; rw [List.length_append, List.length_singleton]; omega⟩⟩) ((List.range 60).map dn) (ds, r, k) ⟨hs, by rw [List.length_map, List.length_range]; exact Nat.le_refl _⟩
  exact ⟨x.1, x.2.1, x.2.2, h1, h2, h3⟩
theorem out_big (ns : List Int) (ds : List Nat) (i : Int) (r k o t : Option D) (hs : Sml ds) (hl : ds.length ≤ 100000) (h : 1000000000000000000 ≤ i.natAbs) :
    ∃ ds' r' k', b2__law_draws [.scr ns, .o .own (.lst (il ds)), .d (.int i), od r, od k, od o, od t] = .nx (drI ns ds' (.d (.int i)) r' (od k') (od o) (od t)) ∧ Sml ds' ∧ ds'.length ≤ ds.length + 60 := by
  obtain ⟨ds', r', k', h1, h2, h3⟩ := in_loop ns ds (.d (.int i)) (od o) (od t) i.natAbs k hs hl
  refine ⟨ds', r', k', ?_, h2, h3⟩
  unfold drI at h1
  simp -implicitDefEqProofs [b2__law_draws, number_ok, h, r1K2_dn (show 60 < 2 ^ 62 by decide), h1, drI]
theorem out_small (ns : List Int) (ds : List Nat) (i : Int) (r k o t : Option D) (hl : ds.length ≤ 100000) (h : i.natAbs < 1000000000000000000) :
    ∃ x y : Nat, b2__law_draws [.scr ns, .o .own (.lst (il ds)), .d (.int i), od r, od k, od o, od t] = .nx [.scr ns, .o .own (.lst (il (ds ++ [i.natAbs % 1000, x % 1000, y % 1000]))), .d (.int i), .d (dn i.natAbs), od k, .d (dn x), .d (dn y)] := by
  have h' : ¬ 1000000000000000000 ≤ i.natAbs := by omega
  generalize hx : (i.natAbs * 48271 + 11) % 2147483647 = x
  have xl : x < 2147483647 := by rw [← hx]; exact Nat.mod_lt _ (by decide)
  refine ⟨x, (x * 69621 + i.natAbs) % 2147483629, ?_⟩
  have hl2 : ds.length + 3 ≤ szL := by unfold szL; omega
  simp -implicitDefEqProofs [b2__law_draws, number_ok, h', gMul_dn (bg64 (show i.natAbs < 2 ^ 64 by omega)) (bg64 (show 48271 < 2 ^ 64 by decide)), gMod_dn (show 0 < 2147483647 by decide), gMod_dn (show 0 < 2147483629 by decide), gMod_dn (show 0 < 1000 by decide), hx, gMul_dn (bg64 (show x < 2 ^ 64 by omega)) (bg64 (show 69621 < 2 ^ 64 by decide)), hl2, il_app, il]
theorem draws_ok (ns : List Int) (hn : ns.length ≤ 63) : ∃ ds : List Nat, g__law_draws [.scr ns] = .ok (.n (.lst (il ds))) [.scr ns] ∧ Sml ds ∧ ds.length ≤ 3780 := by
  obtain ⟨x, h1, h2, h3⟩ := for_run (t := bName 2) (b := b2__law_draws) (fun x : List Nat × Option D × Option D × Option D × Option D × Option D => [.scr ns, .o .own (.lst (il x.1)), od x.2.1, od x.2.2.1, od x.2.2.2.1, od x.2.2.2.2.1, od x.2.2.2.2.2])
    (fun xs x => (Sml x.1 ∧ x.1.length + 60 * xs.length ≤ 3780) ∧ ∀ y ∈ xs, ∃ i, y = .int i)
    (fun y xs x ⟨⟨h1, h2⟩, h3⟩ => by
      obtain ⟨ds, c, r, k, o, t⟩ := x
      dsimp only at h1 h2
      rw [List.length_cons] at h2
      obtain ⟨i, rfl⟩ := h3 y List.mem_cons_self
      have h4 : ∀ y ∈ xs, ∃ i, y = .int i := fun z hz => h3 z (List.mem_cons_of_mem _ hz)
      by_cases hb : 1000000000000000000 ≤ i.natAbs
      · obtain ⟨ds', r', k', g1, g2, g3⟩ := out_big ns ds i r k o t h1 (by omega) hb
        exact ⟨[.scr ns, .o .own (.lst (il ds)), .d (.int i), od r, od k, od o, od t], (ds', some (.int i), some (dn r'), k', o, t), by simp, .inl g1, ⟨g2, by dsimp only; omega⟩, h4⟩
      · obtain ⟨u, v, g1⟩ := out_small ns ds i r k o t (by omega) (by omega)
        refine ⟨[.scr ns, .o .own (.lst (il ds)), .d (.int i), od r, od k, od o, od t], (_, some (.int i), some (dn i.natAbs), k, some (dn u), some (dn v)), by simp, .inl g1, ⟨?_, ?_⟩, h4⟩
        · refine h1.app fun d hd => ?_
          rcases List.mem_cons.mp hd with rfl | hd
          · exact Nat.mod_lt _ (by decide)
          rcases List.mem_cons.mp hd with rfl | hd
          · exact Nat.mod_lt _ (by decide)
          rw [List.mem_singleton.mp hd]
          exact Nat.mod_lt _ (by decide)
        · dsimp only
          rw [List.length_append]
          show ds.length + 3 + 60 * xs.length ≤ 3780
          omega) (ns.map PyData.int) ([], none, none, none, none, none) ⟨⟨fun d hd => (nomatch hd), by rw [List.length_map]; show 0 + _ ≤ _; omega⟩, fun y hy => by obtain ⟨i, _, rfl⟩ := List.mem_map.mp hy; exact ⟨i, rfl⟩⟩
  obtain ⟨ds, c, r, k, o, t⟩ := x
  dsimp only at h1 h2
  have h1 : forR (bName 2) b2__law_draws (ns.map PyData.int) [.scr ns, .o .own (.lst []), .no, .no, .no, .no, .no] = .nx [.scr ns, .o .own (.lst (il ds)), od c, od r, od k, od o, od t] := h1
  refine ⟨ds.reverse, ?_, fun d hd => h2.1 d (List.mem_reverse.mp hd), by rw [List.length_reverse]; have := h2.2; simp at this; exact this⟩
  have er : (il ds).reverse = il ds.reverse := by unfold il; rw [List.map_reverse]
  simp -implicitDefEqProofs [g__law_draws, b__law_draws, h1, er]
end K00
set_option maxHeartbeats 400000
namespace K00
open PySem PySem.Spec PyProof.Rows L2 EV GF
theorem more_turn (A B : Sl) (seed : Nat) (ms : List Nat) (y : D) (hs : seed < 2 ^ 40) (hl : ms.length ≤ 100000) :
    ∃ s2 m, b1__law_more [A, B, .d (dn seed), .o .own (.lst (il ms)), .d y] = .nx [A, B, .d (dn s2), .o .own (.lst (il (ms ++ [m % 1000]))), .d y] ∧ s2 < 2 ^ 40 := by
  refine ⟨(seed * 48271 + 12345) % 2147483647, (seed * 48271 + 12345) % 2147483647 / 7, ?_, by have := Nat.mod_lt (seed * 48271 + 12345) (show 0 < 2147483647 by decide); omega⟩
  have hl2 : ms.length < szL := by unfold szL; omega
  simp -implicitDefEqProofs [b1__law_more, gMul_dn (bg64 (show seed < 2 ^ 64 by omega)) (bg64 (show 48271 < 2 ^ 64 by decide)), gMod_dn (show 0 < 2147483647 by decide), gMod_dn (show 0 < 1000 by decide), gFdiv_dn (show 0 < 7 by decide) (show 7 < 2 ^ 64 by decide), hl2, il_app, il]
theorem more_ok (ds : List Nat) (hs : Sml ds) (hd : ds.length ≤ 100000) (m : Nat) (hm : m ≤ 10000) :
    ∃ ms, g__law_more [.o .mut (.lst (il ds)), .d (dn m)] = .ok (.n (.lst (il (ms ++ dr (dr ds))))) [.o .mut (.lst (il (dr (dr ds)))), .d (dn m)] ∧ Sml ms ∧ ms.length = m := by
  have n1 := hs.lo
  have n2 := hs.dr.lo
  obtain ⟨x, h1, h2⟩ := for_run (t := bName 4) (b := b1__law_more) (fun x : Nat × List Nat × Option D => [.o .mut (.lst (il (dr (dr ds)))), .d (dn m), .d (dn x.1), .o .own (.lst (il x.2.1)), od x.2.2])
    (fun xs x => x.1 < 2 ^ 40 ∧ Sml x.2.1 ∧ x.2.1.length + xs.length = m)
    (fun y xs x ⟨h1, h2, h3⟩ => by
      obtain ⟨s, ms, k⟩ := x
      dsimp only at h1 h2 h3
      rw [List.length_cons] at h3
      obtain ⟨s2, q, g1, g2⟩ := more_turn (.o .mut (.lst (il (dr (dr ds))))) (.d (dn m)) s ms y h1 (by omega)
      exact ⟨_, (s2, ms ++ [q % 1000], some y), by simp, .inl g1, g2, h2.app (sml1 (Nat.mod_lt _ (by decide))), by dsimp only; rw [List.length_append, List.length_singleton]; omega⟩) ((List.range m).map dn) (1000 * lo ds + lo (dr ds) + 1, [], none) ⟨by dsimp only; omega, (fun d hd => (nomatch hd)), by rw [List.length_map, List.length_range]; exact Nat.zero_add m⟩
  obtain ⟨s, ms, k⟩ := x
  dsimp only at h1 h2
  refine ⟨ms, ?_, h2.2.1, by simpa using h2.2.2⟩
  have hlen : ms.length = m := by simpa using h2.2.2
  have hsz : ms.length + (ds.length - 1 - 1) ≤ sizeLine := by rw [sizeLine_eq]; omega
  have h1 : forR (bName 4) b1__law_more ((List.range m).map dn) [.o .mut (.lst (il (dr (dr ds)))), .d (dn m), .d (dn (1000 * lo ds + lo (dr ds) + 1)), .o .own (.lst []), .no] = .nx [.o .mut (.lst (il (dr (dr ds)))), .d (dn m), .d (dn s), .o .own (.lst (il ms)), od k] := h1
  simp -implicitDefEqProofs [g__law_more, b__law_more, next_ok, gMul_dn (bg64 (show 1000 < 2 ^ 64 by decide)) (bg64 (show lo ds < 2 ^ 64 by omega)), r1K2_dn (show m < 2 ^ 62 by omega), h1, hsz, il_app]
theorem any_ok (ds : List Nat) (hs : Sml ds) : ∃ v es, g__law_any [.o .mut (.lst (il ds))] = .ok (.d (dn v)) [.o .mut (.lst (il es))] ∧ v < 2 ^ 40 ∧ Sml es := by
  have n1 := hs.lo
  have n2 := hs.dr.lo
  have n3 := hs.dr.dr.lo
  have n4 := hs.dr.dr.dr.lo
  generalize hk : 1 + lo (dr (dr (dr (dr ds)))) % 40 = k
  have kl : k ≤ 40 := by rw [← hk]; have := Nat.mod_lt (lo (dr (dr (dr (dr ds))))) (show 0 < 40 by decide); omega
  refine ⟨(10 ^ 9 * lo ds + 10 ^ 6 * lo (dr ds) + 1000 * lo (dr (dr ds)) + lo (dr (dr (dr ds)))) % 2 ^ k, dr (dr (dr (dr (dr ds)))), ?_, ?_, hs.dr.dr.dr.dr.dr⟩
  · simp -implicitDefEqProofs [g__law_any, b__law_any, next_ok, gPow_dn (show 9 ≤ 1000000 by decide) (show 10 < 2 ^ 64 by decide), gPow_dn (show 6 ≤ 1000000 by decide) (show 10 < 2 ^ 64 by decide), gMul_dn (bg64 (show 1000 < 2 ^ 64 by decide)) (bg64 (show lo (dr (dr ds)) < 2 ^ 64 by omega)),
      gMul_dn (bg64 (show 1000000000 < 2 ^ 64 by decide)) (bg64 (show lo ds < 2 ^ 64 by omega)), gMul_dn (bg64 (show 1000000 < 2 ^ 64 by decide)) (bg64 (show lo (dr ds) < 2 ^ 64 by omega)), gMod_dn (show 0 < 40 by decide), hk, power_ok k (by omega), gMod_dn (Nat.two_pow_pos k)]
  · exact Nat.lt_of_lt_of_le (Nat.mod_lt _ (Nat.two_pow_pos k)) (Nat.pow_le_pow_right (by decide) kl)
theorem odd_ok (ds : List Nat) (hs : Sml ds) : ∃ v es, g__law_odd [.o .mut (.lst (il ds)), .d (dn 10)] = .ok (.d (dn v)) [.o .mut (.lst (il es)), .d (dn 10)] ∧ 2 ≤ bl v ∧ bl v ≤ 11 ∧ Sml es := by
  have n1 := hs.lo
  have n2 := hs.dr.lo
  have n3 := hs.dr.dr.lo
  generalize hk : lo ds % 10 = j
  have kl : j < 10 := by rw [← hk]; exact Nat.mod_lt _ (by decide)
  generalize hm : (1000 * lo (dr ds) + lo (dr (dr ds))) % 2 ^ j = r
  have rl : r < 2 ^ j := by rw [← hm]; exact Nat.mod_lt _ (Nat.two_pow_pos j)
  have r2 : r < 2 ^ 10 := Nat.lt_of_lt_of_le rl (Nat.pow_le_pow_right (by decide) (by omega))
  have e1 : 2 ^ (1 + j) = 2 * 2 ^ j := by rw [Nat.add_comm, Nat.pow_succ, Nat.mul_comm]
  have hb : bl (1 + 2 ^ (1 + j) + 2 * r) = 1 + j + 1 := by
    refine bl_eq (by omega) ?_
    rw [Nat.pow_succ, e1]
    omega
  refine ⟨1 + 2 ^ (1 + j) + 2 * r, dr (dr (dr ds)), ?_, by omega, by omega, hs.dr.dr.dr⟩
  have e2 : 1 + j - 1 = j := by omega
  have e3 : gSub (dn (1 + j)) (dn 1) = some (.d (dn j)) := by rw [gSub_dn (by omega), e2]
  simp -implicitDefEqProofs [g__law_odd, b__law_odd, next_ok, gMod_dn (show 0 < 10 by decide), hk, power_ok (1 + j) (by omega), power_ok j (by omega), e3, gMul_dn (bg64 (show 1000 < 2 ^ 64 by decide)) (bg64 (show lo (dr ds) < 2 ^ 64 by omega)), gMod_dn (Nat.two_pow_pos j), hm, gMul_dn (bg64 (show 2 < 2 ^ 64 by decide)) (bg64 (show r < 2 ^ 64 by omega))]
/-! ### what is asked -/
section
variable (p o n : Nat) (x : D)
def P0 : D := .str "!poly"
theorem kn0 : kn 0 = "!poly" := rfl
theorem kn4 : kn 4 = "!number" := rfl
theorem sel0 {α : Type} {a b c : α} : atI [a, b, c] ((0 : Nat) : Int) = some a := rfl
theorem degree_ok (h : p < 2 ^ 64) : g_degree [.d (dn p)] = .ok (.d (dg p)) [.d (dn p)] := by
  simp -implicitDefEqProofs [g_degree, b_degree, check_poly_ok p h, degree_of_ok]
theorem weight_ok (h : p < 2 ^ 64) : g_weight [.d (dn p)] = .ok (.d (dn (wt p (bl p)))) [.d (dn p)] := by
  have := bl_le.mpr h
  simp -implicitDefEqProofs [g_weight, b_weight, check_poly_ok p h, weight_of_ok p (by omega)]
theorem mirrored_ok (h : p < 2 ^ 64) (h0 : p ≠ 0) : g_mirrored [.d (dn p)] = .ok (.d (dn (mv p (bl p)))) [.d (dn p)] := by
  have := bl_le.mpr h
  simp -implicitDefEqProofs [g_mirrored, b_mirrored, check_other_ok p h h0, mirrored_of_ok p (by omega)]
theorem product_ok (h : p < 2 ^ 64) (h2 : o < 2 ^ 64) : g_product [.d (dn p), .d (dn o)] = .ok (.d (dn (ml p o))) [.d (dn p), .d (dn o)] := by
  have := bl_le.mpr h
  have := bl_le.mpr h2
  simp -implicitDefEqProofs [g_product, b_product, check_poly_ok p h, check_poly_ok o h2, product_of_ok p o (by omega) (by omega)]
theorem divided_ok (h : p < 2 ^ 64) (h2 : o < 2 ^ 64) (h0 : o ≠ 0) : g_divided [.d (dn p), .d (dn o)] = .ok (.d (.tuple [dn (dv p o).1, dn (dv p o).2])) [.d (dn p), .d (dn o)] := by
  have := bl_le.mpr h
  simp -implicitDefEqProofs [g_divided, b_divided, check_poly_ok p h, check_other_ok o h2 h0, divided_of_ok p o h0 (by omega)]
theorem common_ok (h : p < 2 ^ 64) (h2 : o < 2 ^ 64) (h0 : ¬ (p = 0 ∧ o = 0)) : g_common_divisor [.d (dn p), .d (dn o)] = .ok (.d (dn (gc p o))) [.d (dn p), .d (dn o)] := by
  have := bl_le.mpr h
  have := bl_le.mpr h2
  by_cases z : p = 0
  · have z2 : o ≠ 0 := fun e => h0 ⟨z, e⟩
    subst z
    simp -implicitDefEqProofs [g_common_divisor, b_common_divisor, check_poly_ok 0 (by decide), check_poly_ok o h2, z2, common_of_ok 0 o (by decide) (by omega)]
  · simp -implicitDefEqProofs [g_common_divisor, b_common_divisor, check_poly_ok p h, check_poly_ok o h2, z, common_of_ok p o (by omega) (by omega)]
theorem dg_lt1 (p : Nat) : gLt (dg p) (dn 1) = some (.d (.bool (decide (bl p < 2)))) := by
  show some (Vl.d (.bool (decide (((bl p : Int) - 1) < ((1 : Nat) : Int))))) = _
  congr 3
  exact decide_eq_decide.mpr (by omega)
theorem power_rest_ok (hn : n ≤ 10 ^ 30) (h : bl p ≤ 50) (h2 : 2 ≤ bl p) : g_power_rest [.d (dn n), .d (dn p)] = .ok (.d (dn (rm (2 ^ n) p))) [.d (dn n), .d (dn p)] := by
  have hp : p ≠ 0 := fun z => by rw [z, bl_zero] at h2; omega
  have l : p < 2 ^ 64 := bl_le.mp (by omega)
  have l2 : ¬ bl p < 2 := by omega
  have l3 : n ≤ 1000000000000000000000000000000 := hn
  have l4 : n < 2 ^ 200 := by omega
  simp -implicitDefEqProofs [g_power_rest, b_power_rest, check_poly_ok p l, degree_of_ok, dg_lt1, l2, l3, power_by_ok n p l4 hp h]
theorem power_rest_no (y : D) (h : bl p < 2) : g_power_rest [.d y, .d (dn p)] = .ex 0 [.d y, .d (dn p)] := by
  have l : p < 2 ^ 64 := bl_le.mp (by omega)
  simp -implicitDefEqProofs [g_power_rest, b_power_rest, check_poly_ok p l, degree_of_ok, dg_lt1, h]
theorem slK2_dn {m : Nat} {gs : List (Rho → Out Vl)} {ma : Rho → Out (List Vl)} {ρ : Rho} {i : Nat} : slK2 m gs ma ρ (some (dn i)) = slK m ma ρ gs[i]? := by
  show slK m ma ρ (atI gs (i : Int)) = _
  congr 1
  unfold atI ixN
  by_cases h : i < gs.length
  · rw [if_pos (by omega), if_pos (by omega)]
    simp
  · rw [if_pos (by omega), if_neg (by omega)]
    simp [List.getElem?_eq_none (Nat.not_lt.mp h)]
end
theorem as1 {i : Nat} {f : Rho → Out Vl} {x y v : D} {bk : Rho} (hi : i < 3) (hf : [g_degree, g_weight, g_mirrored][i]? = some f) (hv : f [.d y] = .ok (.d v) bk) : g__law_asked [.d (dn i), .d y, .d x] = .ok (.d v) [.d (dn i), .d y, .d x] := by
  have hf2 := hf
  rw [List.getElem?_eq_getElem hi] at hf2
  injection hf2 with hf2
  simp -implicitDefEqProofs [g__law_asked, b__law_asked, slK2_dn, hi, hf2, hv]
theorem as1x {i c : Nat} {f : Rho → Out Vl} {x y : D} {bk : Rho} (hi : i < 3) (hf : [g_degree, g_weight, g_mirrored][i]? = some f) (hv : f [.d y] = .ex c bk) : g__law_asked [.d (dn i), .d y, .d x] = .ok (.d (.str (kn c))) [.d (dn i), .d y, .d x] := by
  have hf2 := hf
  rw [List.getElem?_eq_getElem hi] at hf2
  injection hf2 with hf2
  simp -implicitDefEqProofs [g__law_asked, b__law_asked, slK2_dn, hi, hf2, hv]
theorem as2 {i j : Nat} {f : Rho → Out Vl} {x y v : D} {bk : Rho} (hj : i = j + 3) (hf : [g_product, g_divided, g_common_divisor, g_power_rest][j]? = some f) (hv : f [.d y, .d x] = .ok (.d v) bk) : g__law_asked [.d (dn i), .d y, .d x] = .ok (.d v) [.d (dn i), .d y, .d x] := by
  subst hj
  have e : gSub (dn (j + 3)) (dn 3) = some (.d (dn j)) := by rw [gSub_dn (by omega), Nat.add_sub_cancel]
  have h : ¬ j + 3 < 3 := by omega
  simp -implicitDefEqProofs [g__law_asked, b__law_asked, slK2_dn, h, hf, hv, e]
theorem as2x {i j c : Nat} {f : Rho → Out Vl} {x y : D} {bk : Rho} (hj : i = j + 3) (hf : [g_product, g_divided, g_common_divisor, g_power_rest][j]? = some f) (hv : f [.d y, .d x] = .ex c bk) : g__law_asked [.d (dn i), .d y, .d x] = .ok (.d (.str (kn c))) [.d (dn i), .d y, .d x] := by
  subst hj
  have e : gSub (dn (j + 3)) (dn 3) = some (.d (dn j)) := by rw [gSub_dn (by omega), Nat.add_sub_cancel]
  have h : ¬ j + 3 < 3 := by omega
  simp -implicitDefEqProofs [g__law_asked, b__law_asked, slK2_dn, h, hf, hv, e]
/-- a polynomial that is none -/
structure BadP (y : D) : Prop where
  e : g_check_poly [.d y] = .ex 0 [.d y]
theorem bad_neg : BadP (.int (-1)) := ⟨check_poly_neg⟩
theorem bad_top : BadP (dn (2 ^ 64)) := ⟨check_poly_big _ (Nat.le_refl _)⟩
section
variable {y : D} {p : Nat}
theorem BadP.deg (b : BadP y) : g_degree [.d y] = .ex 0 [.d y] := by simp -implicitDefEqProofs [g_degree, b_degree, b.e]
theorem BadP.wt (b : BadP y) : g_weight [.d y] = .ex 0 [.d y] := by simp -implicitDefEqProofs [g_weight, b_weight, b.e]
theorem BadP.oth (b : BadP y) : g_check_other [.d y] = .ex 0 [.d y] := by simp -implicitDefEqProofs [g_check_other, b_check_other, b.e]
theorem BadP.mir (b : BadP y) : g_mirrored [.d y] = .ex 0 [.d y] := by simp -implicitDefEqProofs [g_mirrored, b_mirrored, b.oth]
theorem BadP.pr1 (b : BadP y) (x : D) : g_product [.d y, .d x] = .ex 0 [.d y, .d x] := by simp -implicitDefEqProofs [g_product, b_product, b.e]
theorem BadP.dv1 (b : BadP y) (x : D) : g_divided [.d y, .d x] = .ex 0 [.d y, .d x] := by simp -implicitDefEqProofs [g_divided, b_divided, b.e]
theorem BadP.gc1 (b : BadP y) (x : D) : g_common_divisor [.d y, .d x] = .ex 0 [.d y, .d x] := by simp -implicitDefEqProofs [g_common_divisor, b_common_divisor, b.e]
theorem BadP.pr2 (b : BadP y) (h : p < 2 ^ 64) : g_product [.d (dn p), .d y] = .ex 0 [.d (dn p), .d y] := by simp -implicitDefEqProofs [g_product, b_product, check_poly_ok p h, b.e]
theorem BadP.dv2 (b : BadP y) (h : p < 2 ^ 64) : g_divided [.d (dn p), .d y] = .ex 0 [.d (dn p), .d y] := by simp -implicitDefEqProofs [g_divided, b_divided, check_poly_ok p h, b.oth]
theorem BadP.gc2 (b : BadP y) (h : p < 2 ^ 64) : g_common_divisor [.d (dn p), .d y] = .ex 0 [.d (dn p), .d y] := by simp -implicitDefEqProofs [g_common_divisor, b_common_divisor, check_poly_ok p h, b.e]
theorem BadP.pw (b : BadP y) (x : D) : g_power_rest [.d x, .d y] = .ex 0 [.d x, .d y] := by simp -implicitDefEqProofs [g_power_rest, b_power_rest, b.e]
theorem mirrored_zero : g_mirrored [.d (dn 0)] = .ex 0 [.d (dn 0)] := by simp -implicitDefEqProofs [g_mirrored, b_mirrored, check_other_zero]
theorem divided_zero (h : p < 2 ^ 64) : g_divided [.d (dn p), .d (dn 0)] = .ex 0 [.d (dn p), .d (dn 0)] := by simp -implicitDefEqProofs [g_divided, b_divided, check_poly_ok p h, check_other_zero]
theorem common_zero : g_common_divisor [.d (dn 0), .d (dn 0)] = .ex 0 [.d (dn 0), .d (dn 0)] := by simp -implicitDefEqProofs [g_common_divisor, b_common_divisor, check_poly_ok 0 (by decide)]
theorem power_neg (h : bl p ≤ 50) (h2 : 2 ≤ bl p) : g_power_rest [.d (.int (-1)), .d (dn p)] = .ex 4 [.d (.int (-1)), .d (dn p)] := by
  have l : p < 2 ^ 64 := bl_le.mp (by omega)
  have l2 : ¬ bl p < 2 := by omega
  simp -implicitDefEqProofs [g_power_rest, b_power_rest, check_poly_ok p l, degree_of_ok, dg_lt1, l2, neg_le]
theorem power_big {n : Nat} (hn : 10 ^ 30 < n) (h : bl p ≤ 50) (h2 : 2 ≤ bl p) : g_power_rest [.d (dn n), .d (dn p)] = .ex 4 [.d (dn n), .d (dn p)] := by
  have l : p < 2 ^ 64 := bl_le.mp (by omega)
  have l2 : ¬ bl p < 2 := by omega
  have l3 : ¬ n ≤ 1000000000000000000000000000000 := by omega
  simp -implicitDefEqProofs [g_power_rest, b_power_rest, check_poly_ok p l, degree_of_ok, dg_lt1, l2, l3]
end
end K00
set_option maxHeartbeats 400000
namespace K00
open PySem PySem.Spec PyProof.Rows L2 EV GF
theorem then_nx {A R : Rho → SR} {ρ ρ1 : Rho} {r : SR} (h : A ρ = .nx ρ1) (h2 : R ρ1 = r) : mThen A R ρ = r := by
  unfold mThen
  rw [h]
  exact h2
/-! ### bounds -/
theorem wt_le (p : Nat) : ∀ k, wt p k ≤ k
  | 0 => Nat.le_refl _
  | k + 1 => by
    rw [wt_succ]
    have := wt_le p k
    have := Nat.mod_lt (p / 2 ^ k) (show 0 < 2 by decide)
    omega
theorem mv_lt (p : Nat) : ∀ k, mv p k < 2 ^ k
  | 0 => Nat.one_pos
  | k + 1 => by
    have := mv_lt p k
    have := Nat.mod_lt (p / 2 ^ k) (show 0 < 2 by decide)
    unfold mv
    rw [Nat.pow_succ]
    omega
theorem dv_bl {a o : Nat} (ho : o ≠ 0) : bl (dv a o).1 ≤ bl a := by
  obtain ⟨h1, h2⟩ := dv_ok a ho
  by_cases hq : (dv a o).1 = 0
  · rw [hq, bl_zero]; omega
  · have h3 := (bl_ml ho hq).1
    have h4 := bl_pos hq
    have h5 : bl a = bl (ml o (dv a o).1) := by
      conv => lhs; rw [h1]
      exact bl_xor_top (by omega)
    have := bl_pos ho
    omega
theorem gcF_bl : ∀ (n a b k : Nat), bl a ≤ k → bl b ≤ k → bl (gcF n a b) ≤ k
  | 0, _, _, _, h, _ => h
  | n + 1, a, b, k, h, h2 => by
    unfold gcF
    split
    · exact h
    · rename_i hb
      have := rm_lt a hb
      exact gcF_bl n b (rm a b) k h2 (by omega)
theorem sm_dn {n k : Nat} (h : bl n ≤ k) (hk : k ≤ 900) : smD (dn n) = true := by
  rw [smD_dn, decide_eq_true_eq]
  unfold bl at h
  split at h
  · rename_i z; subst z; decide
  · omega
theorem sm_dg {n : Nat} (h : bl n ≤ 500) : smD (dg n) = true := by
  show decide (((bl n : Int) - 1).natAbs.log2 < 1000) = true
  rw [decide_eq_true_eq]
  have e : ((bl n : Int) - 1).natAbs ≤ 500 := by omega
  by_cases z : ((bl n : Int) - 1).natAbs = 0
  · rw [z]; decide
  · rw [Nat.log2_lt z]
    exact Nat.lt_of_le_of_lt e (by decide +kernel)
/-! ### the examples -/
def mlF : Nat → Nat → Nat → Nat
  | 0, _, _ => 0
  | n + 1, a, b => (if b % 2 = 1 then a else 0) ^^^ 2 * mlF n a (b / 2)
theorem mlF_eq : ∀ (n a b : Nat), bl b ≤ n → ml a b = mlF n a b
  | 0, a, b, h => by
    have : b = 0 := by
      by_cases z : b = 0
      · exact z
      · have := bl_pos z; omega
    subst this
    exact ml_zero a
  | n + 1, a, b, h => by
    rw [ml_eq]
    unfold mlF
    rw [mlF_eq n a (b / 2) (by rw [bl_half]; omega)]
theorem x1 : ml 11 13 = 127 := (mlF_eq 8 11 13 (by decide +kernel)).trans (by decide +kernel)
theorem x2 : mv 11 (bl 11) = 13 := by decide +kernel
theorem x3 : (dv 29 3).1 = 11 := by decide +kernel
theorem x3' : (dv 29 3).2 = 0 := by decide +kernel
theorem x4 : gc 29 15 = 3 := by decide +kernel
theorem x5 : dg 0 = .int (-1) := rfl
theorem x6 : wt 29 (bl 29) = 4 := by decide +kernel
theorem x7 : rm 128 11 = 1 := by decide +kernel
def XS : D := .list [dn 127, dn 13, .tuple [dn 11, dn 0], dn 3, .int (-1), dn 4, dn 1]
theorem xs_ok : gRepr [XS] = some (.d (.str XS.shown)) := gRepr_ok (by decide +kernel) (by decide +kernel) (by decide +kernel)
theorem ne_self (z : Str) : gNe (.str z) (.str z) = some (.d (.bool false)) := by
  show some (Vl.d (.bool (!decide (z = z)))) = _
  rw [decide_eq_true rfl]; rfl
theorem neg1 : PyData.int (-((1 : Nat) : Int)) = .int (-1) := rfl
theorem st3 (a b : Sl) : mIfS (mTst (mBin gNe (mCall gRepr (mCons (mLst (mCons (mCallD 2 g_product (mCons (mC (dn 11)) (mCons (mC (dn 13)) (mNil)))) (mCons (mCallD 1 g_mirrored (mCons (mC (dn 11)) (mNil))) (mCons (mCallD 2 g_divided (mCons (mC (dn 29)) (mCons (mC (dn 3)) (mNil)))) (mCons (mCallD 2 g_common_divisor (mCons (mC (dn 29)) (mCons (mC (dn 15)) (mNil)))) (mCons (mCallD 1 g_degree (mCons (mC (dn 0)) (mNil))) (mCons (mCallD 1 g_weight (mCons (mC (dn 29)) (mNil))) (mCons (mCallD 2 g_power_rest (mCons (mC (dn 7)) (mCons (mC (dn 11)) (mNil)))) (mNil))))))))) (mNil))) (mCall gRepr (mCons (mLst (mCons (mC (dn 127)) (mCons (mC (dn 13)) (mCons (mTup (mCons (mC (dn 11)) (mCons (mC (dn 0)) (mNil)))) (mCons (mC (dn 3)) (mCons (mUn gNeg (mC (dn 1))) (mCons (mC (dn 4)) (mCons (mC (dn 1)) (mNil))))))))) (mNil))))) (mRet (mC (.bool false))) (mNx)
    [a, b, .no, .no, .no, .no, .no, .no, .no, .no, .no, .no] = .nx [a, b, .no, .no, .no, .no, .no, .no, .no, .no, .no, .no] := by
  have h := xs_ok
  unfold XS at h
  simp -implicitDefEqProofs [product_ok 11 13 (by decide) (by decide), mirrored_ok 11 (by decide) (by decide), divided_ok 29 3 (by decide) (by decide) (by decide), common_ok 29 15 (by decide) (by decide) (by decide), degree_ok 0 (by decide), weight_ok 29 (by decide), power_rest_ok 11 7 (by decide) (by decide +kernel) (by decide +kernel), x1, x2, x3, x3', x4, x5, x6, x7, neg1, h, ne_self]
end K00
set_option maxHeartbeats 1000000
namespace K00
open PySem PySem.Spec PyProof.Rows L2 EV GF
/-- a comprehension over pairs: what is walked, what comes -/
theorem lc_pairs {t : D → Rho → Option Rho} {e : Rho → Out Vl} {vs : List Nat} {ρ0 : Rho} (L : List (D × D)) (h : ∀ x ∈ L, ∃ ρ1, t x.1 ρ0 = some ρ1 ∧ canWipe ρ1 vs = true ∧ wipeR ρ1 vs = ρ0 ∧ ∃ v, e ρ1 = .ok v ρ1 ∧ frz1 v ρ1 = some (x.2, ρ1)) (hl : L.length ≤ 1000) :
    lcR t (mB true) e vs (L.map Prod.fst) ρ0 [] = .ok (.n (.lst (L.map Prod.snd))) ρ0 := by
  have l := lc_map (c := mB true) (t := t) (e := e) (vs := vs) (ρ0 := ρ0) Prod.fst (fun _ => true) Prod.snd L [] (fun x hx => by
    obtain ⟨ρ1, a, b, c, d⟩ := h x hx
    exact ⟨ρ1, a, rfl, b, c, fun _ => d⟩) (by unfold szL; simp; omega)
  rw [List.filter_eq_self.mpr fun _ _ => rfl, List.nil_append] at l
  exact l
def dueA (p : Nat) : D := if p = 0 then .str "!poly" else dn (mv p (bl p))
def dueB (p o : Nat) : D := if o = 0 then .str "!poly" else .tuple [dn (dv p o).1, dn (dv p o).2]
def dueC (p o : Nat) : D := if p = 0 ∧ o = 0 then .str "!poly" else dn (gc p o)
def dueE (n o : Nat) : D := if o < 2 then .str "!poly" else dn (rm (2 ^ n) o)
section
variable {p o n : Nat} (hp : p < 2 ^ 40) (ho : o < 2 ^ 40)
include hp
theorem askA0 (x : D) : g__law_asked [.d (dn 0), .d (dn p), .d x] = .ok (.d (dg p)) [.d (dn 0), .d (dn p), .d x] := as1 (by decide) rfl (degree_ok p (by omega))
theorem askA1 (x : D) : g__law_asked [.d (dn 1), .d (dn p), .d x] = .ok (.d (dn (wt p (bl p)))) [.d (dn 1), .d (dn p), .d x] := as1 (by decide) rfl (weight_ok p (by omega))
theorem askA2 (x : D) : g__law_asked [.d (dn 2), .d (dn p), .d x] = .ok (.d (dueA p)) [.d (dn 2), .d (dn p), .d x] := by
  unfold dueA
  split
  · rename_i z; subst z
    exact as1x (c := 0) (by decide) rfl mirrored_zero
  · rename_i z
    exact as1 (by decide) rfl (mirrored_ok p (by omega) z)
include ho
theorem askA3 : g__law_asked [.d (dn 3), .d (dn p), .d (dn o)] = .ok (.d (dn (ml p o))) [.d (dn 3), .d (dn p), .d (dn o)] := as2 (j := 0) rfl rfl (product_ok p o (by omega) (by omega))
theorem askA4 : g__law_asked [.d (dn 4), .d (dn p), .d (dn o)] = .ok (.d (dueB p o)) [.d (dn 4), .d (dn p), .d (dn o)] := by
  unfold dueB
  split
  · rename_i z; subst z
    exact as2x (c := 0) (j := 1) rfl rfl (divided_zero (by omega))
  · rename_i z
    exact as2 (j := 1) rfl rfl (divided_ok p o (by omega) (by omega) z)
theorem askA5 : g__law_asked [.d (dn 5), .d (dn p), .d (dn o)] = .ok (.d (dueC p o)) [.d (dn 5), .d (dn p), .d (dn o)] := by
  unfold dueC
  split
  · rename_i z
    obtain ⟨z1, z2⟩ := z
    subst z1 z2
    exact as2x (c := 0) (j := 2) rfl rfl common_zero
  · rename_i z
    exact as2 (j := 2) rfl rfl (common_ok p o (by omega) (by omega) z)
omit hp
theorem askA6 (hn : n < 60) : g__law_asked [.d (dn 6), .d (dn n), .d (dn o)] = .ok (.d (dueE n o)) [.d (dn 6), .d (dn n), .d (dn o)] := by
  have b := bl_le.mpr ho
  unfold dueE
  split
  · rename_i z
    exact as2x (c := 0) (j := 3) rfl rfl (power_rest_no o (dn n) (by
      have : bl o ≤ 1 := bl_le.mpr z
      omega))
  · rename_i z
    exact as2 (j := 3) rfl rfl (power_rest_ok o n (by omega) (by omega) (by
      have : 1 < bl o := bl_ge.mpr (by omega)
      omega))
end
def due (p o n : Nat) : List D := [dg p, dn (wt p (bl p)), dueA p, dn (ml p o), dueB p o, dueC p o, dueE n o]
theorem smP : smD (.str "!poly") = true := by decide +kernel
theorem bd_dn (n : Nat) : (dn n).bulk ≤ 100 ∧ (dn n).depth ≤ 10 := ⟨by simp [dn, PyData.bulk], by simp [dn, PyData.depth]⟩
theorem bd_P : (PyData.str "!poly").bulk ≤ 100 ∧ (PyData.str "!poly").depth ≤ 10 := by decide +kernel
theorem due_ok {p o n : Nat} (hp : p < 2 ^ 40) (ho : o < 2 ^ 40) : gRepr [.list (due p o n)] = some (.d (.str (PyData.list (due p o n)).shown)) := by
  have b1 := bl_le.mpr hp
  have b2 := bl_le.mpr ho
  have sA : smD (dueA p) = true := by
    unfold dueA; split
    · exact smP
    · exact sm_dn (k := 40) (bl_le.mpr (Nat.lt_of_lt_of_le (mv_lt p _) (Nat.pow_le_pow_right (by decide) b1))) (by decide)
  have sB : smD (dueB p o) = true := by
    unfold dueB; split
    · exact smP
    · rename_i z
      have q1 := dv_bl (a := p) z
      have q2 := rm_lt p z
      show (smD _ && (smD _ && true)) = true
      rw [sm_dn (k := 40) (by omega) (by decide), sm_dn (k := 40) (show bl (dv p o).2 ≤ 40 by unfold rm at q2; omega) (by decide)]; rfl
  have sC : smD (dueC p o) = true := by
    unfold dueC; split
    · exact smP
    · exact sm_dn (k := 40) (gcF_bl _ p o 40 b1 b2) (by decide)
  have sE : smD (dueE n o) = true := by
    unfold dueE; split
    · exact smP
    · rename_i z
      have q2 := rm_lt (2 ^ n) (show o ≠ 0 by omega)
      exact sm_dn (k := 40) (by omega) (by decide)
  have bA : (dueA p).bulk ≤ 100 ∧ (dueA p).depth ≤ 10 := by unfold dueA; split; exact bd_P; exact bd_dn _
  have bB : (dueB p o).bulk ≤ 100 ∧ (dueB p o).depth ≤ 10 := by unfold dueB; split <;> simp [PyData.bulk, PyData.bulkAll, PyData.depth, PyData.depthAll, dn] <;> decide +kernel
  have bC : (dueC p o).bulk ≤ 100 ∧ (dueC p o).depth ≤ 10 := by unfold dueC; split; exact bd_P; exact bd_dn _
  have bE : (dueE n o).bulk ≤ 100 ∧ (dueE n o).depth ≤ 10 := by unfold dueE; split; exact bd_P; exact bd_dn _
  refine gRepr_ok ?_ ?_ ?_
  · show (smD _ && (smD _ && (smD _ && (smD _ && (smD _ && (smD _ && (smD _ && true))))))) = true
    rw [sm_dg (by omega), sm_dn (k := 40) (Nat.le_trans (bl_le.mpr (Nat.lt_of_le_of_lt (wt_le p _) (Nat.lt_of_le_of_lt b1 (by decide)))) (show 6 ≤ 40 by decide)) (by decide), sA, sm_dn (k := 80) (by have := bl_ml_le p o; omega) (by decide), sB, sC, sE]
    rfl
  · show (PyData.list (due p o n)).bulk ≤ 16000
    simp only [due, PyData.bulk, PyData.bulkAll, dn, dg]
    omega
  · show (PyData.list (due p o n)).depth ≤ 60
    simp only [due, PyData.depth, PyData.depthAll, dn, dg]
    omega
end K00
set_option maxHeartbeats 1000000
namespace K00
open PySem PySem.Spec PyProof.Rows L2 EV GF
theorem r3 : (List.range 3).map dn = [dn 0, dn 1, dn 2] := rfl
/-- the three comprehensions of the first comparison -/
theorem cmp1 (A B E F G : Sl) (p o n : Nat) (hp : p < 2 ^ 40) (ho : o < 2 ^ 40) :
    lcR (bName 9) (mB true) (mCallD 3 g__law_asked (mCons (mVar 9) (mCons (mVar 2) (mCons (mC .none) (mNil))))) [9] [dn 0, dn 1, dn 2] [A, B, .d (dn p), .d (dn o), E, F, .no, .no, .no, .no, .no, .no] [] = .ok (.n (.lst [dg p, dn (wt p (bl p)), dueA p])) [A, B, .d (dn p), .d (dn o), E, F, .no, .no, .no, .no, .no, .no] := by
  refine lc_pairs [(dn 0, dg p), (dn 1, dn (wt p (bl p))), (dn 2, dueA p)] (fun x hx => ?_) (by simp)
  refine ⟨[A, B, .d (dn p), .d (dn o), E, F, .no, .no, .no, .d x.1, .no, .no], by simp, by simp, by simp, .d x.2, ?_, rfl⟩
  have k : g__law_asked [.d x.1, .d (dn p), .d .none] = .ok (.d x.2) [.d x.1, .d (dn p), .d .none] := by
    rcases List.mem_cons.mp hx with rfl | hx
    · exact askA0 hp .none
    rcases List.mem_cons.mp hx with rfl | hx
    · exact askA1 hp .none
    rw [List.mem_singleton.mp hx]
    exact askA2 hp .none
  simp -implicitDefEqProofs [k]
theorem cmp2 (A B E F G : Sl) (p o n : Nat) (hp : p < 2 ^ 40) (ho : o < 2 ^ 40) :
    lcR (bName 9) (mB true) (mCallD 3 g__law_asked (mCons (mVar 9) (mCons (mVar 2) (mCons (mVar 3) (mNil))))) [9] [dn 3, dn 4, dn 5] [A, B, .d (dn p), .d (dn o), E, F, .no, .no, .no, .no, .no, .no] [] = .ok (.n (.lst [dn (ml p o), dueB p o, dueC p o])) [A, B, .d (dn p), .d (dn o), E, F, .no, .no, .no, .no, .no, .no] := by
  refine lc_pairs [(dn 3, dn (ml p o)), (dn 4, dueB p o), (dn 5, dueC p o)] (fun x hx => ?_) (by simp)
  refine ⟨[A, B, .d (dn p), .d (dn o), E, F, .no, .no, .no, .d x.1, .no, .no], by simp, by simp, by simp, .d x.2, ?_, rfl⟩
  have k : g__law_asked [.d x.1, .d (dn p), .d (dn o)] = .ok (.d x.2) [.d x.1, .d (dn p), .d (dn o)] := by
    rcases List.mem_cons.mp hx with rfl | hx
    · exact askA3 hp ho
    rcases List.mem_cons.mp hx with rfl | hx
    · exact askA4 hp ho
    rw [List.mem_singleton.mp hx]
    exact askA5 hp ho
  simp -implicitDefEqProofs [k]
/-- the great power -/
theorem great_eq {g : Nat} (h : 2 ≤ bl g) (n : Nat) : rm (2 ^ (n + 1)) g = (rm (2 ^ n) g * 2) ^^^ (if bl (2 * rm (2 ^ n) g) = bl g then g else 0) := by
  have hg : g ≠ 0 := fun z => by rw [z, bl_zero] at h; omega
  have l := rm_lt (2 ^ n) hg
  refine (rm_eq hg ?_ ?_).symm
  · have c1 : Cg g (2 * rm (2 ^ n) g) (2 ^ (n + 1)) := by
      have t := (Cg.rm (2 ^ n) hg).mul 2
      have e : ∀ z, ml z 2 = 2 * z := fun z => by
        have q := ml_pow z 1
        rw [Nat.pow_one] at q
        rw [q, Nat.mul_comm]
      rw [e, e] at t
      rw [Nat.pow_succ, Nat.mul_comm (2 ^ n)]
      exact t
    have c2 : Cg g (2 * rm (2 ^ n) g ^^^ (if bl (2 * rm (2 ^ n) g) = bl g then g else 0)) (2 ^ (n + 1) ^^^ 0) := by
      refine c1.add ?_
      split
      · exact ⟨1, by rw [ml_one, Nat.xor_zero]⟩
      · exact Cg.refl _ _
    rw [Nat.xor_zero, Nat.mul_comm 2 (rm _ _)] at c2
    rw [Nat.mul_comm 2 (rm _ _)]
    exact c2
  · rw [Nat.mul_comm]
    by_cases z : rm (2 ^ n) g = 0
    · rw [z, Nat.mul_zero, bl_zero, if_neg (by omega), Nat.zero_xor, bl_zero]; omega
    · have b := bl_two z
      split
      · rename_i e
        have := bl_xor_lt e (Nat.mul_ne_zero (by decide) z)
        omega
      · rw [Nat.xor_zero]; omega
/-! the many refused ones -/
def PP : D := .str "!poly"
theorem flat_turn (A : Sl) (xs ys : List D) (h : xs.length + ys.length ≤ szL) : b1__law_flat [A, .o .own (.lst xs), .d (.list ys)] = .nx [A, .o .own (.lst (xs ++ ys)), .d (.list ys)] := by
  simp -implicitDefEqProofs [b1__law_flat, h]
theorem flat_ok (L : List (List D)) (h : (L.map List.length).sum ≤ 1000) : g__law_flat [.d (.list (L.map PyData.list))] = .ok (.n (.lst L.flatten)) [.d (.list (L.map PyData.list))] := by
  obtain ⟨x, h1, h2⟩ := for_run (t := bName 2) (b := b1__law_flat) (fun x : List D × Option D => [.d (.list (L.map PyData.list)), .o .own (.lst x.1), od x.2]) (fun xs x => ∃ M : List (List D), xs = M.map PyData.list ∧ x.1 ++ M.flatten = L.flatten ∧ x.1.length + (M.map List.length).sum ≤ 1000)
    (fun y xs x ⟨M, h1, h2, h3⟩ => by
      obtain ⟨zs, o⟩ := x
      cases M with
      | nil => cases h1
      | cons m M =>
        rw [List.map_cons] at h1
        injection h1 with e1 e2
        subst e1
        rw [List.map_cons, List.sum_cons] at h3
        dsimp only at h2 h3
        refine ⟨[.d (.list (L.map PyData.list)), .o .own (.lst zs), .d (.list m)], (zs ++ m, some (.list m)), by simp, .inl (flat_turn _ _ _ (by unfold szL; omega)), M, e2, ?_, ?_⟩
        · rw [List.flatten_cons] at h2
          dsimp only
          rw [List.append_assoc]; exact h2
        · dsimp only
          rw [List.length_append]; omega) (L.map PyData.list) ([], none) ⟨L, rfl, rfl, by dsimp only; rw [List.length_nil]; omega⟩
  obtain ⟨zs, o⟩ := x
  obtain ⟨M, e1, e2, _⟩ := h2
  have e3 : M = [] := by cases M with
    | nil => rfl
    | cons a b => cases e1
  subst e3
  rw [List.flatten_nil, List.append_nil] at e2
  dsimp only at e2
  have h1 : forR (bName 2) b1__law_flat (L.map PyData.list) [.d (.list (L.map PyData.list)), .o .own (.lst []), .no] = .nx [.d (.list (L.map PyData.list)), .o .own (.lst zs), od o] := h1
  simp -implicitDefEqProofs [g__law_flat, b__law_flat, h1, e2]
end K00
set_option maxHeartbeats 2000000
namespace K00
open PySem PySem.Spec PyProof.Rows L2 EV GF
/-- one asked at two bad ones -/
theorem bad2 {f : D → D} (i : Nat) (hi : i < 6) (y : D) (b : BadP y) : g__law_asked [.d (dn i), .d y, .d (dn 1)] = .ok (.d PP) [.d (dn i), .d y, .d (dn 1)] := by
  match i, hi with
  | 0, _ => exact as1x (c := 0) (by decide) rfl b.deg
  | 1, _ => exact as1x (c := 0) (by decide) rfl b.wt
  | 2, _ => exact as1x (c := 0) (by decide) rfl b.mir
  | 3, _ => exact as2x (c := 0) (j := 0) rfl rfl (b.pr1 _)
  | 4, _ => exact as2x (c := 0) (j := 1) rfl rfl (b.dv1 _)
  | 5, _ => exact as2x (c := 0) (j := 2) rfl rfl (b.gc1 _)
theorem bad3 (i : Nat) (h3 : 3 ≤ i) (hi : i < 6) (y : D) (b : BadP y) : g__law_asked [.d (dn i), .d (dn 1), .d y] = .ok (.d PP) [.d (dn i), .d (dn 1), .d y] := by
  match i, h3, hi with
  | 3, _, _ => exact as2x (c := 0) (j := 0) rfl rfl (b.pr2 (by decide))
  | 4, _, _ => exact as2x (c := 0) (j := 1) rfl rfl (b.dv2 (by decide))
  | 5, _, _ => exact as2x (c := 0) (j := 2) rfl rfl (b.gc2 (by decide))
theorem top_eq : dn 18446744073709551616 = dn (2 ^ 64) := rfl
section
variable (A B C E F G H I J K : Sl)
theorem in1 (i : Nat) (hi : i < 6) : lcR (bName 10) (mB true) (mCallD 3 g__law_asked (mCons (mVar 9) (mCons (mVar 10) (mCons (mC (dn 1)) (mNil))))) [10] [.int (-1), dn (2 ^ 64)] [A, B, C, E, F, G, H, I, J, .d (dn i), .no, K] [] = .ok (.n (.lst [PP, PP])) [A, B, C, E, F, G, H, I, J, .d (dn i), .no, K] := by
  refine lc_pairs [(.int (-1), PP), (dn (2 ^ 64), PP)] (fun x hx => ?_) (by simp)
  refine ⟨[A, B, C, E, F, G, H, I, J, .d (dn i), .d x.1, K], by simp, by simp, by simp, .d x.2, ?_, rfl⟩
  have k : g__law_asked [.d (dn i), .d x.1, .d (dn 1)] = .ok (.d x.2) [.d (dn i), .d x.1, .d (dn 1)] := by
    rcases List.mem_cons.mp hx with rfl | hx
    · exact bad2 (f := id) i hi _ bad_neg
    rw [List.mem_singleton.mp hx]
    exact bad2 (f := id) i hi _ bad_top
  simp -implicitDefEqProofs [k]
theorem in2 (i : Nat) (h3 : 3 ≤ i) (hi : i < 6) : lcR (bName 10) (mB true) (mCallD 3 g__law_asked (mCons (mVar 9) (mCons (mC (dn 1)) (mCons (mVar 10) (mNil))))) [10] [.int (-1), dn (2 ^ 64)] [A, B, C, E, F, G, H, I, J, .d (dn i), .no, K] [] = .ok (.n (.lst [PP, PP])) [A, B, C, E, F, G, H, I, J, .d (dn i), .no, K] := by
  refine lc_pairs [(.int (-1), PP), (dn (2 ^ 64), PP)] (fun x hx => ?_) (by simp)
  refine ⟨[A, B, C, E, F, G, H, I, J, .d (dn i), .d x.1, K], by simp, by simp, by simp, .d x.2, ?_, rfl⟩
  have k : g__law_asked [.d (dn i), .d (dn 1), .d x.1] = .ok (.d x.2) [.d (dn i), .d (dn 1), .d x.1] := by
    rcases List.mem_cons.mp hx with rfl | hx
    · exact bad3 i h3 hi _ bad_neg
    rw [List.mem_singleton.mp hx]
    exact bad3 i h3 hi _ bad_top
  simp -implicitDefEqProofs [k]
def QQ : D := .list [PP, PP]
theorem out1 : lcR (bName 9) (mB true) (mLc (mSeq (mLst (mCons (mUn gNeg (mC (dn 1))) (mCons (mVar 7) (mNil))))) (bName 10) (mB true) (mCallD 3 g__law_asked (mCons (mVar 9) (mCons (mVar 10) (mCons (mC (dn 1)) (mNil))))) [10]) [9] ((List.range 6).map dn) [A, B, C, E, F, G, H, .d (dn (2 ^ 64)), J, .no, .no, K] [] = .ok (.n (.lst [QQ, QQ, QQ, QQ, QQ, QQ])) [A, B, C, E, F, G, H, .d (dn (2 ^ 64)), J, .no, .no, K] := by
  have e : (List.range 6).map dn = ([(dn 0, QQ), (dn 1, QQ), (dn 2, QQ), (dn 3, QQ), (dn 4, QQ), (dn 5, QQ)] : List (D × D)).map Prod.fst := rfl
  rw [e]
  refine lc_pairs [(dn 0, QQ), (dn 1, QQ), (dn 2, QQ), (dn 3, QQ), (dn 4, QQ), (dn 5, QQ)] (fun x hx => ?_) (by simp)
  obtain ⟨i, hi, rfl⟩ : ∃ i, i < 6 ∧ x = (dn i, QQ) := by
    simp only [List.mem_cons, List.not_mem_nil, or_false] at hx
    rcases hx with rfl | rfl | rfl | rfl | rfl | rfl
    · exact ⟨0, by decide, rfl⟩
    · exact ⟨1, by decide, rfl⟩
    · exact ⟨2, by decide, rfl⟩
    · exact ⟨3, by decide, rfl⟩
    · exact ⟨4, by decide, rfl⟩
    · exact ⟨5, by decide, rfl⟩
  refine ⟨[A, B, C, E, F, G, H, .d (dn (2 ^ 64)), J, .d (dn i), .no, K], by simp, by simp, by simp, .n (.lst [PP, PP]), ?_, rfl⟩
  have k := in1 A B C E F G H (.d (dn (2 ^ 64))) J K i hi
  simp -implicitDefEqProofs [neg1, -Nat.reducePow, k]
theorem out2 : lcR (bName 9) (mB true) (mLc (mSeq (mLst (mCons (mUn gNeg (mC (dn 1))) (mCons (mVar 7) (mNil))))) (bName 10) (mB true) (mCallD 3 g__law_asked (mCons (mVar 9) (mCons (mC (dn 1)) (mCons (mVar 10) (mNil))))) [10]) [9] [dn 3, dn 4, dn 5] [A, B, C, E, F, G, H, .d (dn (2 ^ 64)), J, .no, .no, K] [] = .ok (.n (.lst [QQ, QQ, QQ])) [A, B, C, E, F, G, H, .d (dn (2 ^ 64)), J, .no, .no, K] := by
  refine lc_pairs [(dn 3, QQ), (dn 4, QQ), (dn 5, QQ)] (fun x hx => ?_) (by simp)
  obtain ⟨i, h3, hi, rfl⟩ : ∃ i, 3 ≤ i ∧ i < 6 ∧ x = (dn i, QQ) := by
    simp only [List.mem_cons, List.not_mem_nil, or_false] at hx
    rcases hx with rfl | rfl | rfl
    · exact ⟨3, by decide, by decide, rfl⟩
    · exact ⟨4, by decide, by decide, rfl⟩
    · exact ⟨5, by decide, by decide, rfl⟩
  refine ⟨[A, B, C, E, F, G, H, .d (dn (2 ^ 64)), J, .d (dn i), .no, K], by simp, by simp, by simp, .n (.lst [PP, PP]), ?_, rfl⟩
  have k := in2 A B C E F G H (.d (dn (2 ^ 64))) J K i h3 hi
  simp -implicitDefEqProofs [neg1, -Nat.reducePow, k]
theorem six4 : lcR (bName 10) (mB true) (mCallD 3 g__law_asked (mCons (mC (dn 6)) (mCons (mC (dn 5)) (mCons (mVar 10) (mNil))))) [10] [.int (-1), dn (2 ^ 64), dn 0, dn 1] [A, B, C, E, F, G, H, I, J, .no, .no, K] [] = .ok (.n (.lst [PP, PP, PP, PP])) [A, B, C, E, F, G, H, I, J, .no, .no, K] := by
  refine lc_pairs [(.int (-1), PP), (dn (2 ^ 64), PP), (dn 0, PP), (dn 1, PP)] (fun x hx => ?_) (by simp)
  refine ⟨[A, B, C, E, F, G, H, I, J, .no, .d x.1, K], by simp, by simp, by simp, .d x.2, ?_, rfl⟩
  have k : g__law_asked [.d (dn 6), .d (dn 5), .d x.1] = .ok (.d x.2) [.d (dn 6), .d (dn 5), .d x.1] := by
    rcases List.mem_cons.mp hx with rfl | hx
    · exact as2x (c := 0) (j := 3) rfl rfl (bad_neg.pw _)
    rcases List.mem_cons.mp hx with rfl | hx
    · exact as2x (c := 0) (j := 3) rfl rfl (bad_top.pw _)
    rcases List.mem_cons.mp hx with rfl | hx
    · exact as2x (c := 0) (j := 3) rfl rfl (power_rest_no 0 (dn 5) (by decide))
    rw [List.mem_singleton.mp hx]
    exact as2x (c := 0) (j := 3) rfl rfl (power_rest_no 1 (dn 5) (by decide +kernel))
  simp -implicitDefEqProofs [k]
def NN : D := .str "!number"
theorem six2 : lcR (bName 11) (mB true) (mCallD 3 g__law_asked (mCons (mC (dn 6)) (mCons (mVar 11) (mCons (mC (dn 7)) (mNil))))) [11] [.int (-1), dn (10 ^ 30 + 1)] [A, B, C, E, F, G, H, I, J, K, .no, .no] [] = .ok (.n (.lst [NN, NN])) [A, B, C, E, F, G, H, I, J, K, .no, .no] := by
  refine lc_pairs [(.int (-1), NN), (dn (10 ^ 30 + 1), NN)] (fun x hx => ?_) (by simp)
  refine ⟨[A, B, C, E, F, G, H, I, J, K, .no, .d x.1], by simp, by simp, by simp, .d x.2, ?_, rfl⟩
  have k : g__law_asked [.d (dn 6), .d x.1, .d (dn 7)] = .ok (.d x.2) [.d (dn 6), .d x.1, .d (dn 7)] := by
    rcases List.mem_cons.mp hx with rfl | hx
    · exact as2x (c := 4) (j := 3) rfl rfl (power_neg (by decide +kernel) (by decide +kernel))
    rw [List.mem_singleton.mp hx]
    exact as2x (c := 4) (j := 3) rfl rfl (power_big (Nat.lt_succ_self _) (by decide +kernel) (by decide +kernel))
  simp -implicitDefEqProofs [k]
theorem t63 : dg (2 ^ 64 - 1) = dn 63 := by
  unfold dg
  rw [show bl (2 ^ 64 - 1) = 64 by decide +kernel]
  rfl
theorem two2 : lcR (bName 9) (mB true) (mCallD 3 g__law_asked (mCons (mVar 9) (mCons (mBin gSub (mVar 7) (mC (dn 1))) (mCons (mC .none) (mNil))))) [9] [dn 0, dn 1] [A, B, C, E, F, G, H, .d (dn (2 ^ 64)), J, .no, .no, K] [] = .ok (.n (.lst [dn 63, dn 64])) [A, B, C, E, F, G, H, .d (dn (2 ^ 64)), J, .no, .no, K] := by
  refine lc_pairs [(dn 0, dn 63), (dn 1, dn 64)] (fun x hx => ?_) (by simp)
  refine ⟨[A, B, C, E, F, G, H, .d (dn (2 ^ 64)), J, .d x.1, .no, K], by simp, by simp, by simp, .d x.2, ?_, rfl⟩
  have es : gSub (dn (2 ^ 64)) (dn 1) = some (.d (dn (2 ^ 64 - 1))) := gSub_dn (by decide)
  have k : g__law_asked [.d x.1, .d (dn (2 ^ 64 - 1)), .d .none] = .ok (.d x.2) [.d x.1, .d (dn (2 ^ 64 - 1)), .d .none] := by
    rcases List.mem_cons.mp hx with rfl | hx
    · exact as1 (by decide) rfl (by rw [← t63]; exact degree_ok (2 ^ 64 - 1) (by decide))
    rw [List.mem_singleton.mp hx]
    refine as1 (by decide) rfl (?_ : g_weight [.d (dn (2 ^ 64 - 1))] = .ok (.d (dn 64)) [.d (dn (2 ^ 64 - 1))])
    have w := weight_ok (2 ^ 64 - 1) (by decide)
    rw [show wt (2 ^ 64 - 1) (bl (2 ^ 64 - 1)) = 64 by decide +kernel] at w
    exact w
  simp -implicitDefEqProofs [-Nat.reducePow, -Nat.reduceSub, es, k]
end
end K00
set_option maxHeartbeats 2000000
namespace K00
open PySem PySem.Spec PyProof.Rows L2 EV GF
theorem dg_eq (a b : Nat) : gEq (dg a) (dg b) = some (.d (.bool (decide (bl a = bl b)))) := by
  show some (Vl.d (.bool (decide (((bl a : Int) - 1) = ((bl b : Int) - 1))))) = _
  congr 3
  exact decide_eq_decide.mpr (by omega)
def T12 : List D := [PP, PP, PP, PP, PP, PP, PP, PP, PP, PP, PP, PP]
def T6 : List D := [PP, PP, PP, PP, PP, PP]
def T22 : List D := [PP, PP, PP, PP, PP, PP, PP, PP, PP, PP, PP, PP, PP, PP, PP, PP, PP, PP, PP, PP, PP, PP]
theorem f1 : g__law_flat [.d (.list [QQ, QQ, QQ, QQ, QQ, QQ])] = .ok (.n (.lst T12)) [.d (.list [QQ, QQ, QQ, QQ, QQ, QQ])] := flat_ok [[PP, PP], [PP, PP], [PP, PP], [PP, PP], [PP, PP], [PP, PP]] (by decide)
theorem f2 : g__law_flat [.d (.list [QQ, QQ, QQ])] = .ok (.n (.lst T6)) [.d (.list [QQ, QQ, QQ])] := flat_ok [[PP, PP], [PP, PP], [PP, PP]] (by decide)
theorem a18 : gAdd (.list T12) (.list T6) = some (.n (.lst (T12 ++ T6))) := by rw [gAdd_l, if_pos (by rw [sizeLine_eq]; decide)]
theorem a22 : gAdd (.list (T12 ++ T6)) (.list [PP, PP, PP, PP]) = some (.n (.lst T22)) := by rw [gAdd_l, if_pos (by rw [sizeLine_eq]; decide)]; rfl
theorem gMul_l {xs : List D} {k : Nat} (hk : k < 2 ^ 62) (h : xs.length * k ≤ 16777216) : gMul (.list xs) (dn k) = some (.n (.lst (List.replicate k xs).flatten)) := by
  unfold dn gMul
  dsimp only
  rw [if_pos ⟨by omega, by omega, by rw [sizeLine_eq, Int.toNat_natCast]; exact h⟩, Int.toNat_natCast]
theorem m22 : gMul (.list [.str "!poly"]) (dn 22) = some (.n (.lst T22)) := (gMul_l (by decide) (by decide)).trans rfl
theorem m2 : gMul (.list [.str "!number"]) (dn 2) = some (.n (.lst [NN, NN])) := (gMul_l (by decide) (by decide)).trans rfl
theorem eq_of {xs ys : List D} (h : eqOk (.list xs) (.list ys) = true) (h2 : (PyData.list xs).eqv (.list ys) = true) : gEq (.list xs) (.list ys) = some (.d (.bool true)) := by
  show (if eqOk (.list xs) (.list ys) = true then some (Vl.d (.bool ((PyData.list xs).eqv (.list ys)))) else none) = _
  rw [if_pos h, h2]
theorem q22 : gEq (.list T22) (.list T22) = some (.d (.bool true)) := eq_of (by decide +kernel) (by decide +kernel)
theorem q2 : gEq (.list [NN, NN]) (.list [NN, NN]) = some (.d (.bool true)) := eq_of (by decide +kernel) (by decide +kernel)
theorem q63 : gEq (.list [dn 63, dn 64]) (.list [dn 63, dn 64]) = some (.d (.bool true)) := eq_of (by decide +kernel) (by decide +kernel)
theorem then_nxP {P : SR → Prop} {A R : Rho → SR} {ρ ρ1 : Rho} (h : A ρ = .nx ρ1) (h2 : P (R ρ1)) : P (mThen A R ρ) := by
  rw [then_nx h rfl]
  exact h2
theorem good (ns : List Int) (len : ns.length ≤ 63) : ∃ bk, g_law [.scr ns] = .ok (.d (.bool true)) bk := by
  obtain ⟨ds0, e0, s0, l0⟩ := draws_ok ns len
  obtain ⟨ms, e1, s1, l1⟩ := more_ok ds0 s0 (by omega) 80 (by decide)
  obtain ⟨one, ds1, e2, v1, s2⟩ := any_ok _ (s1.app s0.dr.dr)
  obtain ⟨oth, ds2, e3, v2, s3⟩ := any_ok ds1 s2
  obtain ⟨gr, ds3, e4, b1, b2, s4⟩ := odd_ok (dr ds2) s3.dr
  have b3 := bl_le.mpr v1
  have b4 := bl_le.mpr v2
  generalize hn : lo ds2 % 60 = n
  have nl : n < 60 := by rw [← hn]; exact Nat.mod_lt _ (by decide)
  let P : SR → Prop := fun r => ∃ ρ, r = .rt (.d (.bool true)) (.scr ns :: ρ)
  suffices q : P (b_law [.scr ns, .no, .no, .no, .no, .no, .no, .no, .no, .no, .no, .no]) by
    obtain ⟨ρ, q⟩ := q
    refine ⟨[.scr ns], ?_⟩
    show exitF [.scr ns] (b_law [.scr ns, .no, .no, .no, .no, .no, .no, .no, .no, .no, .no, .no]) = _
    rw [q]
    simp
  unfold b_law
  refine then_nxP (ρ1 := [.scr ns, .o .own (.lst (il ds0)), .no, .no, .no, .no, .no, .no, .no, .no, .no, .no]) (by simp -implicitDefEqProofs [e0]) ?_
  refine then_nxP (ρ1 := [.scr ns, .o .own (.lst (il (ms ++ dr (dr ds0)))), .no, .no, .no, .no, .no, .no, .no, .no, .no, .no]) (by simp -implicitDefEqProofs [e1]) ?_
  refine then_nxP (st3 _ _) ?_
  refine then_nxP (ρ1 := [.scr ns, .o .own (.lst (il ds2)), .d (dn one), .d (dn oth), .no, .no, .no, .no, .no, .no, .no, .no]) (by simp -implicitDefEqProofs [e2, e3]) ?_
  refine then_nxP (ρ1 := [.scr ns, .o .own (.lst (il (dr ds2))), .d (dn one), .d (dn oth), .d (dn n), .no, .no, .no, .no, .no, .no, .no]) (by simp -implicitDefEqProofs [next_ok, gMod_dn (show 0 < 60 by decide), hn]) ?_
  generalize hA : Sl.o Md.own (Co.lst (il (dr ds2))) = DR
  have iA : ∀ E F : Sl, mIf (mTst (mBin gEq (mVar 2) (mC (dn 0)))) (mC (.str "!poly")) (mCallD 1 g__law_mirrored (mCons (mVar 2) (mNil))) [.scr ns, DR, .d (dn one), .d (dn oth), E, F, .no, .no, .no, .no, .no, .no] = .ok (.d (dueA one)) [.scr ns, DR, .d (dn one), .d (dn oth), E, F, .no, .no, .no, .no, .no, .no] := fun E F => by
    unfold dueA
    by_cases z : one = 0
    · simp -implicitDefEqProofs [z]
    · simp -implicitDefEqProofs [z, lmirrored_ok one (by omega) z]
  have iB : ∀ E F : Sl, mIf (mTst (mBin gEq (mVar 3) (mC (dn 0)))) (mC (.str "!poly")) (mCall gTuple (mCons (mCallD 2 g__law_split (mCons (mVar 2) (mCons (mVar 3) (mNil)))) (mNil))) [.scr ns, DR, .d (dn one), .d (dn oth), E, F, .no, .no, .no, .no, .no, .no] = .ok (.d (dueB one oth)) [.scr ns, DR, .d (dn one), .d (dn oth), E, F, .no, .no, .no, .no, .no, .no] := fun E F => by
    unfold dueB
    by_cases z : oth = 0
    · simp -implicitDefEqProofs [z]
    · simp -implicitDefEqProofs [z, split_ok one oth z (by omega) (by omega)]
  have iC : ∀ E F : Sl, mIf (mIf (mTst (mBin gEq (mVar 2) (mC (dn 0)))) (mTst (mBin gEq (mVar 3) (mC (dn 0)))) (mB false)) (mC (.str "!poly")) (mCallD 2 g__law_common (mCons (mVar 2) (mCons (mVar 3) (mNil)))) [.scr ns, DR, .d (dn one), .d (dn oth), E, F, .no, .no, .no, .no, .no, .no] = .ok (.d (dueC one oth)) [.scr ns, DR, .d (dn one), .d (dn oth), E, F, .no, .no, .no, .no, .no, .no] := fun E F => by
    unfold dueC
    by_cases z : one = 0
    · by_cases z2 : oth = 0
      · simp -implicitDefEqProofs [z, z2]
      · simp -implicitDefEqProofs [z, z2, lcommon_ok 0 oth (by decide) (by omega)]
    · simp -implicitDefEqProofs [z, lcommon_ok one oth (by omega) (by omega)]
  have iE : ∀ F : Sl, mIf (mTst (mBin gLt (mVar 3) (mC (dn 2)))) (mC (.str "!poly")) (mCallD 2 g__law_powered (mCons (mVar 4) (mCons (mVar 3) (mNil)))) [.scr ns, DR, .d (dn one), .d (dn oth), .d (dn n), F, .no, .no, .no, .no, .no, .no] = .ok (.d (dueE n oth)) [.scr ns, DR, .d (dn one), .d (dn oth), .d (dn n), F, .no, .no, .no, .no, .no, .no] := fun F => by
    unfold dueE
    by_cases z : oth < 2
    · simp -implicitDefEqProofs [z]
    · simp -implicitDefEqProofs [z, lpowered_ok n oth (by omega) (by omega) (by omega)]
  refine then_nxP (ρ1 := [.scr ns, DR, .d (dn one), .d (dn oth), .d (dn n), .o .own (.lst [dg one, dn (wt one (bl one)), dueA one, dn (ml one oth), dueB one oth]), .no, .no, .no, .no, .no, .no]) (by
    simp -implicitDefEqProofs [-mIf_eq, iA, iB, ldeg_ok one (by omega), lweight_ok one (by omega), ltimes_ok one oth (by omega) (by omega)]) ?_
  refine then_nxP (ρ1 := [.scr ns, DR, .d (dn one), .d (dn oth), .d (dn n), .o .own (.lst [dg one, dn (wt one (bl one)), dueA one, dn (ml one oth), dueB one oth, dueC one oth]), .no, .no, .no, .no, .no, .no]) (by
    simp -implicitDefEqProofs [-mIf_eq, iC, sizeLine_eq]) ?_
  refine then_nxP (ρ1 := [.scr ns, DR, .d (dn one), .d (dn oth), .d (dn n), .o .own (.lst (due one oth n)), .no, .no, .no, .no, .no, .no]) (by
    simp -implicitDefEqProofs [-mIf_eq, iE, szL, due]) ?_
  have gd := due_ok (n := n) v1 v2
  have c1 := cmp1 (.scr ns) DR (.d (dn n)) (.o .own (.lst (due one oth n))) .no one oth n v1 v2
  have c2 := cmp2 (.scr ns) DR (.d (dn n)) (.o .own (.lst (due one oth n))) .no one oth n v1 v2
  have dd : due one oth n = [dg one, dn (wt one (bl one)), dueA one, dn (ml one oth), dueB one oth, dueC one oth, dueE n oth] := rfl
  refine then_nxP (ρ1 := [.scr ns, DR, .d (dn one), .d (dn oth), .d (dn n), .o .own (.lst (due one oth n)), .no, .no, .no, .no, .no, .no]) (by
    generalize due one oth n = DU at *
    simp -implicitDefEqProofs [r1K2_dn (show 3 < 2 ^ 62 by decide), r3, c1, c2, askA6 v2 nl, sizeLine_eq, ← dd, gd, ne_self]) ?_
  generalize due one oth n = DU
  subst hA
  refine then_nxP (ρ1 := [.scr ns, .o .own (.lst (il ds3)), .d (dn one), .d (dn oth), .d (dn n), .o .own (.lst DU), .d (dn gr), .no, .no, .no, .no, .no]) (by
    simp -implicitDefEqProofs [e4]) ?_
  have key : ∀ m, m + 1 ≤ 10 ^ 30 → ∃ u v, g_power_rest [.d (dn (m + 1)), .d (dn gr)] = .ok (.d (dn u)) [.d (dn (m + 1)), .d (dn gr)] ∧ g_power_rest [.d (dn m), .d (dn gr)] = .ok (.d (dn v)) [.d (dn m), .d (dn gr)] ∧ u = (v * 2) ^^^ (if bl (2 * v) = bl gr then gr else 0) ∧ bl v < bl gr :=
    fun m hm => ⟨_, _, power_rest_ok gr (m + 1) hm (by omega) b1, power_rest_ok gr m (by omega) (by omega) b1, great_eq b1 m, rm_lt _ fun z => by rw [z, bl_zero] at b1; omega⟩
  obtain ⟨u, v, p1, p2, hu, hv⟩ := key 999999999999999999999999999999 (by decide)
  have p1 : g_power_rest [.d (dn 1000000000000000000000000000000), .d (dn gr)] = .ok (.d (dn u)) [.d (dn 1000000000000000000000000000000), .d (dn gr)] := p1
  have es : gSub (dn 1000000000000000000000000000000) (dn 1) = some (.d (dn 999999999999999999999999999999)) := gSub_dn (by decide)
  have vl : v < 2 ^ 60 := bl_le.mp (by omega)
  have l2 : bl (2 * v) < 200 := by
    by_cases z : v = 0
    · subst z; decide
    · rw [bl_two z]; omega
  have mu1 := gMul_dn (bg64 (show v < 2 ^ 64 by omega)) (bg64 (show 2 < 2 ^ 64 by decide))
  have mu2 := gMul_dn (bg64 (show 2 < 2 ^ 64 by decide)) (bg64 (show v < 2 ^ 64 by omega))
  have pw := gPow_dn (show 30 ≤ 1000000 by decide) (show 10 < 2 ^ 64 by decide)
  have pw : gPow (dn 10) (dn 30) = some (.d (dn 1000000000000000000000000000000)) := pw
  refine then_nxP (ρ1 := [.scr ns, .o .own (.lst (il ds3)), .d (dn one), .d (dn oth), .d (dn n), .o .own (.lst DU), .d (dn gr), .no, .no, .no, .no, .no]) (by
    by_cases z : bl (2 * v) = bl gr
    · rw [if_pos z] at hu
      simp -implicitDefEqProofs [p1, p2, pw, es, mu1, mu2, ldeg_ok (2 * v) l2, ldeg_ok gr (by omega), dg_eq, z, ← hu]
    · rw [if_neg z] at hu
      simp -implicitDefEqProofs [p1, p2, pw, es, mu1, mu2, ldeg_ok (2 * v) l2, ldeg_ok gr (by omega), dg_eq, z]
      simp at hu
      simp -implicitDefEqProofs [hu]) ?_
  have pw64 := power_ok 64 (by decide)
  refine then_nxP (ρ1 := [.scr ns, .o .own (.lst (il ds3)), .d (dn one), .d (dn oth), .d (dn n), .o .own (.lst DU), .d (dn gr), .d (dn (2 ^ 64)), .no, .no, .no, .no]) (by
    simp -implicitDefEqProofs [-Nat.reducePow, pw64]) ?_
  generalize hD : Sl.o Md.own (Co.lst (il ds3)) = DR
  generalize hU : Sl.o Md.own (Co.lst DU) = DV
  have o1 := out1 (.scr ns) DR (.d (dn one)) (.d (dn oth)) (.d (dn n)) DV (.d (dn gr)) .no .no
  have o2 := out2 (.scr ns) DR (.d (dn one)) (.d (dn oth)) (.d (dn n)) DV (.d (dn gr)) .no .no
  generalize htop : dn (2 ^ 64) = TOP at *
  have r6 : (List.range 6).map dn = [dn 0, dn 1, dn 2, dn 3, dn 4, dn 5] := rfl
  rw [r6] at o1
  have r6' := r1K2_dn (a := 6) (show 6 < 2 ^ 62 by decide) (ρ := [.scr ns, DR, .d (dn one), .d (dn oth), .d (dn n), DV, .d (dn gr), .d TOP, .no, .no, .no, .no])
  rw [r6] at r6'
  refine then_nxP (ρ1 := [.scr ns, DR, .d (dn one), .d (dn oth), .d (dn n), DV, .d (dn gr), .d TOP, .o .own (.lst (T12 ++ T6)), .no, .no, .no]) (by
    simp -implicitDefEqProofs [r6', -gAdd_l, a18, f1, f2, o1, o2]) ?_
  have o4 := six4 (.scr ns) DR (.d (dn one)) (.d (dn oth)) (.d (dn n)) DV (.d (dn gr)) (.d TOP) (.o .own (.lst (T12 ++ T6))) .no
  rw [htop] at o4
  generalize hT : T12 ++ T6 = T18 at *
  have a22 : gAdd (.list T18) (.list [PP, PP, PP, PP]) = some (.n (.lst T22)) := by rw [← hT]; exact a22
  refine then_nxP (ρ1 := [.scr ns, DR, .d (dn one), .d (dn oth), .d (dn n), DV, .d (dn gr), .d TOP, .o .own (.lst T22), .no, .no, .no]) (by
    simp -implicitDefEqProofs [-gAdd_l, a22, o4, neg1]) ?_
  have o5 := six2 (.scr ns) DR (.d (dn one)) (.d (dn oth)) (.d (dn n)) DV (.d (dn gr)) (.d TOP) (.o .own (.lst T22)) .no
  have o5 : lcR (bName 11) (mB true) (mCallD 3 g__law_asked (mCons (mC (dn 6)) (mCons (mVar 11) (mCons (mC (dn 7)) (mNil))))) [11] [.int (-1), dn 1000000000000000000000000000001] [.scr ns, DR, .d (dn one), .d (dn oth), .d (dn n), DV, .d (dn gr), .d TOP, .o .own (.lst T22), .no, .no, .no] [] = .ok (.n (.lst [NN, NN])) [.scr ns, DR, .d (dn one), .d (dn oth), .d (dn n), DV, .d (dn gr), .d TOP, .o .own (.lst T22), .no, .no, .no] := o5
  have o6 := two2 (.scr ns) DR (.d (dn one)) (.d (dn oth)) (.d (dn n)) DV (.d (dn gr)) (.o .own (.lst T22)) .no
  rw [htop] at o6
  have r2 : (List.range 2).map dn = [dn 0, dn 1] := rfl
  have r2' := r1K2_dn (a := 2) (show 2 < 2 ^ 62 by decide) (ρ := [.scr ns, DR, .d (dn one), .d (dn oth), .d (dn n), DV, .d (dn gr), .d TOP, .o .own (.lst T22), .no, .no, .no])
  rw [r2] at r2'
  have q22 := q22
  have m22 := m22
  generalize T22 = T at *
  refine ⟨[DR, .d (dn one), .d (dn oth), .d (dn n), DV, .d (dn gr), .d TOP, .o .own (.lst T), .no, .no, .no], ?_⟩
  simp -implicitDefEqProofs [m22, q22, neg1, pw, o5, m2, q2, r2', o6, q63]
end K00
open PySem PySem.W PyProof.Rows
set_option maxHeartbeats 0 in
theorem PySem.Challenge.cw_errseen_k00_polynomials_over_bits_holds : PySem.Challenge.rw_errseen_k00_polynomials_over_bits.Holds := by
  w_on; o_law; k_head; (case hw => w_witness2)
  k_fill
  refine EV.walk_ofG (l := PySem.Challenge.rw_errseen_k00_polynomials_over_bits) (n := 63) (k := 7) (x := "script") (g := K00.g_law) rfl (by decide) rfl ⟨⟨rfl, by decide, by decide⟩, rfl⟩ (fun w h Y => PySem.W.kIn_of Y) ?F (fun ns len => K00.good ns len)
  case F =>
    intro w mg fa h KX G hmg
    refine' K00.mk KX G hmg ?z_int ?z_isinstance ?z_range ?z_repr ?z_sum ?z_tuple ?v_MOST_BITS ?v_MOST_POWER ?a__law_number ?l__law_number ?c__law_number ?k__law_number ?a__law_draws ?l__law_draws ?c__law_draws ?k__law_draws ?a__law_next ?l__law_next ?c__law_next ?k__law_next ?a__law_more ?l__law_more ?c__law_more ?k__law_more ?a__law_power ?l__law_power ?c__law_power ?k__law_power ?a__law_odd ?l__law_odd ?c__law_odd ?k__law_odd ?a__law_any ?l__law_any ?c__law_any ?k__law_any ?a__law_degree ?l__law_degree ?c__law_degree ?k__law_degree ?a__law_weight ?l__law_weight ?c__law_weight ?k__law_weight ?a__law_times ?l__law_times ?c__law_times ?k__law_times ?a_check_poly ?l_check_poly ?c_check_poly ?k_check_poly ?a_degree_of ?l_degree_of ?c_degree_of ?k_degree_of ?a_divided_of ?l_divided_of ?c_divided_of ?k_divided_of ?a_rest_of ?l_rest_of ?c_rest_of ?k_rest_of ?a_product_of ?l_product_of ?c_product_of ?k_product_of ?a_power_by ?l_power_by ?c_power_by ?k_power_by ?a_power_rest ?l_power_rest ?c_power_rest ?k_power_rest ?a__law_flat ?l__law_flat ?c__law_flat ?k__law_flat ?a__law_mirrored ?l__law_mirrored ?c__law_mirrored ?k__law_mirrored ?a__law_split ?l__law_split ?c__law_split ?k__law_split ?a__law_rest ?l__law_rest ?c__law_rest ?k__law_rest ?a__law_powered ?l__law_powered ?c__law_powered ?k__law_powered ?a__law_kind ?l__law_kind ?c__law_kind ?k__law_kind ?a_product ?l_product ?c_product ?k_product ?a_check_other ?l_check_other ?c_check_other ?k_check_other ?a_divided ?l_divided ?c_divided ?k_divided ?a_common_of ?l_common_of ?c_common_of ?k_common_of ?a_common_divisor ?l_common_divisor ?c_common_divisor ?k_common_divisor ?a_degree ?l_degree ?c_degree ?k_degree ?a_weight_of ?l_weight_of ?c_weight_of ?k_weight_of ?a_weight ?l_weight ?c_weight ?k_weight ?a_mirrored_of ?l_mirrored_of ?c_mirrored_of ?k_mirrored_of ?a_mirrored ?l_mirrored ?c_mirrored ?k_mirrored ?a__law_asked ?l__law_asked ?c__law_asked ?k__law_asked ?a__law_common ?l__law_common ?c__law_common ?k__law_common ?a_law ?l_law ?c_law ?k_law ?q_NotPoly ?q_NotCheck ?q_NotText ?q_NotPaper ?q_BadNumber ?q_NoAnswer ?q_TooLarge ?gE ?sE ?iE ?tE ?e_NotPoly ?e_NotCheck ?e_NotText ?e_NotPaper ?e_BadNumber ?e_NoAnswer ?e_TooLarge ?hn ?ht ?s_NotPoly_NotPoly ?s_NotPoly_NotCheck ?n_NotPoly_NotCheck ?s_NotPoly_NotText ?n_NotPoly_NotText ?s_NotPoly_NotPaper ?n_NotPoly_NotPaper ?s_NotPoly_BadNumber ?n_NotPoly_BadNumber ?s_NotPoly_NoAnswer ?n_NotPoly_NoAnswer ?s_NotPoly_TooLarge ?n_NotPoly_TooLarge ?s_NotCheck_NotPoly ?n_NotCheck_NotPoly ?s_NotCheck_NotCheck ?s_NotCheck_NotText ?n_NotCheck_NotText ?s_NotCheck_NotPaper ?n_NotCheck_NotPaper ?s_NotCheck_BadNumber ?n_NotCheck_BadNumber ?s_NotCheck_NoAnswer ?n_NotCheck_NoAnswer ?s_NotCheck_TooLarge ?n_NotCheck_TooLarge ?s_NotText_NotPoly ?n_NotText_NotPoly ?s_NotText_NotCheck ?n_NotText_NotCheck ?s_NotText_NotText ?s_NotText_NotPaper ?n_NotText_NotPaper ?s_NotText_BadNumber ?n_NotText_BadNumber ?s_NotText_NoAnswer ?n_NotText_NoAnswer ?s_NotText_TooLarge ?n_NotText_TooLarge ?s_NotPaper_NotPoly ?n_NotPaper_NotPoly ?s_NotPaper_NotCheck ?n_NotPaper_NotCheck ?s_NotPaper_NotText ?n_NotPaper_NotText ?s_NotPaper_NotPaper ?s_NotPaper_BadNumber ?n_NotPaper_BadNumber ?s_NotPaper_NoAnswer ?n_NotPaper_NoAnswer ?s_NotPaper_TooLarge ?n_NotPaper_TooLarge ?s_BadNumber_NotPoly ?n_BadNumber_NotPoly ?s_BadNumber_NotCheck ?n_BadNumber_NotCheck ?s_BadNumber_NotText ?n_BadNumber_NotText ?s_BadNumber_NotPaper ?n_BadNumber_NotPaper ?s_BadNumber_BadNumber ?s_BadNumber_NoAnswer ?n_BadNumber_NoAnswer ?s_BadNumber_TooLarge ?n_BadNumber_TooLarge ?s_NoAnswer_NotPoly ?n_NoAnswer_NotPoly ?s_NoAnswer_NotCheck ?n_NoAnswer_NotCheck ?s_NoAnswer_NotText ?n_NoAnswer_NotText ?s_NoAnswer_NotPaper ?n_NoAnswer_NotPaper ?s_NoAnswer_BadNumber ?n_NoAnswer_BadNumber ?s_NoAnswer_NoAnswer ?s_NoAnswer_TooLarge ?n_NoAnswer_TooLarge ?s_TooLarge_NotPoly ?n_TooLarge_NotPoly ?s_TooLarge_NotCheck ?n_TooLarge_NotCheck ?s_TooLarge_NotText ?n_TooLarge_NotText ?s_TooLarge_NotPaper ?n_TooLarge_NotPaper ?s_TooLarge_BadNumber ?n_TooLarge_BadNumber ?s_TooLarge_NoAnswer ?n_TooLarge_NoAnswer ?s_TooLarge_TooLarge
    (case z_int => k_is)
    (case z_isinstance => k_is)
    (case z_range => k_is)
    (case z_repr => k_is)
    (case z_sum => k_is)
    (case z_tuple => k_is)
    (case v_MOST_BITS => k_is)
    (case v_MOST_POWER => k_is)
    (case a__law_number => k_is)
    (case l__law_number => k_is)
    (case c__law_number => k_is)
    (case k__law_number => k_is)
    (case a__law_draws => k_is)
    (case l__law_draws => k_is)
    (case c__law_draws => k_is)
    (case k__law_draws => k_is)
    (case a__law_next => k_is)
    (case l__law_next => k_is)
    (case c__law_next => k_is)
    (case k__law_next => k_is)
    (case a__law_more => k_is)
    (case l__law_more => k_is)
    (case c__law_more => k_is)
    (case k__law_more => k_is)
    (case a__law_power => k_is)
    (case l__law_power => k_is)
    (case c__law_power => k_is)
    (case k__law_power => k_is)
    (case a__law_odd => k_is)
    (case l__law_odd => k_is)
    (case c__law_odd => k_is)
    (case k__law_odd => k_is)
    (case a__law_any => k_is)
    (case l__law_any => k_is)
    (case c__law_any => k_is)
    (case k__law_any => k_is)
    (case a__law_degree => k_is)
    (case l__law_degree => k_is)
    (case c__law_degree => k_is)
    (case k__law_degree => k_is)
    (case a__law_weight => k_is)
    (case l__law_weight => k_is)
    (case c__law_weight => k_is)
    (case k__law_weight => k_is)
    (case a__law_times => k_is)
    (case l__law_times => k_is)
    (case c__law_times => k_is)
    (case k__law_times => k_is)
    (case a_check_poly => k_is)
    (case l_check_poly => k_is)
    (case c_check_poly => k_is)
    (case k_check_poly => k_is)
    (case a_degree_of => k_is)
    (case l_degree_of => k_is)
    (case c_degree_of => k_is)
    (case k_degree_of => k_is)
    (case a_divided_of => k_is)
    (case l_divided_of => k_is)
    (case c_divided_of => k_is)
    (case k_divided_of => k_is)
    (case a_rest_of => k_is)
    (case l_rest_of => k_is)
    (case c_rest_of => k_is)
    (case k_rest_of => k_is)
    (case a_product_of => k_is)
    (case l_product_of => k_is)
    (case c_product_of => k_is)
    (case k_product_of => k_is)
    (case a_power_by => k_is)
    (case l_power_by => k_is)
    (case c_power_by => k_is)
    (case k_power_by => k_is)
    (case a_power_rest => k_is)
    (case l_power_rest => k_is)
    (case c_power_rest => k_is)
    (case k_power_rest => k_is)
    (case a__law_flat => k_is)
    (case l__law_flat => k_is)
    (case c__law_flat => k_is)
    (case k__law_flat => k_is)
    (case a__law_mirrored => k_is)
    (case l__law_mirrored => k_is)
    (case c__law_mirrored => k_is)
    (case k__law_mirrored => k_is)
    (case a__law_split => k_is)
    (case l__law_split => k_is)
    (case c__law_split => k_is)
    (case k__law_split => k_is)
    (case a__law_rest => k_is)
    (case l__law_rest => k_is)
    (case c__law_rest => k_is)
    (case k__law_rest => k_is)
    (case a__law_powered => k_is)
    (case l__law_powered => k_is)
    (case c__law_powered => k_is)
    (case k__law_powered => k_is)
    (case a__law_kind => k_is)
    (case l__law_kind => k_is)
    (case c__law_kind => k_is)
    (case k__law_kind => k_is)
    (case a_product => k_is)
    (case l_product => k_is)
    (case c_product => k_is)
    (case k_product => k_is)
    (case a_check_other => k_is)
    (case l_check_other => k_is)
    (case c_check_other => k_is)
    (case k_check_other => k_is)
    (case a_divided => k_is)
    (case l_divided => k_is)
    (case c_divided => k_is)
    (case k_divided => k_is)
    (case a_common_of => k_is)
    (case l_common_of => k_is)
    (case c_common_of => k_is)
    (case k_common_of => k_is)
    (case a_common_divisor => k_is)
    (case l_common_divisor => k_is)
    (case c_common_divisor => k_is)
    (case k_common_divisor => k_is)
    (case a_degree => k_is)
    (case l_degree => k_is)
    (case c_degree => k_is)
    (case k_degree => k_is)
    (case a_weight_of => k_is)
    (case l_weight_of => k_is)
    (case c_weight_of => k_is)
    (case k_weight_of => k_is)
    (case a_weight => k_is)
    (case l_weight => k_is)
    (case c_weight => k_is)
    (case k_weight => k_is)
    (case a_mirrored_of => k_is)
    (case l_mirrored_of => k_is)
    (case c_mirrored_of => k_is)
    (case k_mirrored_of => k_is)
    (case a_mirrored => k_is)
    (case l_mirrored => k_is)
    (case c_mirrored => k_is)
    (case k_mirrored => k_is)
    (case a__law_asked => k_is)
    (case l__law_asked => k_is)
    (case c__law_asked => k_is)
    (case k__law_asked => k_is)
    (case a__law_common => k_is)
    (case l__law_common => k_is)
    (case c__law_common => k_is)
    (case k__law_common => k_is)
    (case a_law => k_is)
    (case l_law => k_is)
    (case c_law => k_is)
    (case k_law => k_is)
    (case q_NotPoly => refine' ⟨?gl, ?ok, ?kp, ?sb, ?ty, ?ic, ?hg, ?hk, ?hd, ?ha, ?hm⟩; (case gl => k_is); (case ok => k_exc); (case kp => k_is); (case sb => k_is); (case ty => k_is); (case ic => k_is); (case hg => k_is); (case hk => k_is); (case hd => k_is); (case ha => k_is); (case hm => k_is))
    (case q_NotCheck => refine' ⟨?gl, ?ok, ?kp, ?sb, ?ty, ?ic, ?hg, ?hk, ?hd, ?ha, ?hm⟩; (case gl => k_is); (case ok => k_exc); (case kp => k_is); (case sb => k_is); (case ty => k_is); (case ic => k_is); (case hg => k_is); (case hk => k_is); (case hd => k_is); (case ha => k_is); (case hm => k_is))
    (case q_NotText => refine' ⟨?gl, ?ok, ?kp, ?sb, ?ty, ?ic, ?hg, ?hk, ?hd, ?ha, ?hm⟩; (case gl => k_is); (case ok => k_exc); (case kp => k_is); (case sb => k_is); (case ty => k_is); (case ic => k_is); (case hg => k_is); (case hk => k_is); (case hd => k_is); (case ha => k_is); (case hm => k_is))
    (case q_NotPaper => refine' ⟨?gl, ?ok, ?kp, ?sb, ?ty, ?ic, ?hg, ?hk, ?hd, ?ha, ?hm⟩; (case gl => k_is); (case ok => k_exc); (case kp => k_is); (case sb => k_is); (case ty => k_is); (case ic => k_is); (case hg => k_is); (case hk => k_is); (case hd => k_is); (case ha => k_is); (case hm => k_is))
    (case q_BadNumber => refine' ⟨?gl, ?ok, ?kp, ?sb, ?ty, ?ic, ?hg, ?hk, ?hd, ?ha, ?hm⟩; (case gl => k_is); (case ok => k_exc); (case kp => k_is); (case sb => k_is); (case ty => k_is); (case ic => k_is); (case hg => k_is); (case hk => k_is); (case hd => k_is); (case ha => k_is); (case hm => k_is))
    (case q_NoAnswer => refine' ⟨?gl, ?ok, ?kp, ?sb, ?ty, ?ic, ?hg, ?hk, ?hd, ?ha, ?hm⟩; (case gl => k_is); (case ok => k_exc); (case kp => k_is); (case sb => k_is); (case ty => k_is); (case ic => k_is); (case hg => k_is); (case hk => k_is); (case hd => k_is); (case ha => k_is); (case hm => k_is))
    (case q_TooLarge => refine' ⟨?gl, ?ok, ?kp, ?sb, ?ty, ?ic, ?hg, ?hk, ?hd, ?ha, ?hm⟩; (case gl => k_is); (case ok => k_exc); (case kp => k_is); (case sb => k_is); (case ty => k_is); (case ic => k_is); (case hg => k_is); (case hk => k_is); (case hd => k_is); (case ha => k_is); (case hm => k_is))
    (case gE => k_is)
    (case sE => k_is)
    (case iE => k_is)
    (case tE => k_is)
    (case e_NotPoly => k_is)
    (case e_NotCheck => k_is)
    (case e_NotText => k_is)
    (case e_NotPaper => k_is)
    (case e_BadNumber => k_is)
    (case e_NoAnswer => k_is)
    (case e_TooLarge => k_is)
    (case hn => k_is)
    (case ht => k_is)
    (case s_NotPoly_NotPoly => k_is)
    (case s_NotPoly_NotCheck => k_is)
    (case n_NotPoly_NotCheck => intro z; exact absurd z (by decide))
    (case s_NotPoly_NotText => k_is)
    (case n_NotPoly_NotText => intro z; exact absurd z (by decide))
    (case s_NotPoly_NotPaper => k_is)
    (case n_NotPoly_NotPaper => intro z; exact absurd z (by decide))
    (case s_NotPoly_BadNumber => k_is)
    (case n_NotPoly_BadNumber => intro z; exact absurd z (by decide))
    (case s_NotPoly_NoAnswer => k_is)
    (case n_NotPoly_NoAnswer => intro z; exact absurd z (by decide))
    (case s_NotPoly_TooLarge => k_is)
    (case n_NotPoly_TooLarge => intro z; exact absurd z (by decide))
    (case s_NotCheck_NotPoly => k_is)
    (case n_NotCheck_NotPoly => intro z; exact absurd z (by decide))
    (case s_NotCheck_NotCheck => k_is)
    (case s_NotCheck_NotText => k_is)
    (case n_NotCheck_NotText => intro z; exact absurd z (by decide))
    (case s_NotCheck_NotPaper => k_is)
    (case n_NotCheck_NotPaper => intro z; exact absurd z (by decide))
    (case s_NotCheck_BadNumber => k_is)
    (case n_NotCheck_BadNumber => intro z; exact absurd z (by decide))
    (case s_NotCheck_NoAnswer => k_is)
    (case n_NotCheck_NoAnswer => intro z; exact absurd z (by decide))
    (case s_NotCheck_TooLarge => k_is)
    (case n_NotCheck_TooLarge => intro z; exact absurd z (by decide))
    (case s_NotText_NotPoly => k_is)
    (case n_NotText_NotPoly => intro z; exact absurd z (by decide))
    (case s_NotText_NotCheck => k_is)
    (case n_NotText_NotCheck => intro z; exact absurd z (by decide))
    (case s_NotText_NotText => k_is)
    (case s_NotText_NotPaper => k_is)
    (case n_NotText_NotPaper => intro z; exact absurd z (by decide))
    (case s_NotText_BadNumber => k_is)
    (case n_NotText_BadNumber => intro z; exact absurd z (by decide))
    (case s_NotText_NoAnswer => k_is)
    (case n_NotText_NoAnswer => intro z; exact absurd z (by decide))
    (case s_NotText_TooLarge => k_is)
    (case n_NotText_TooLarge => intro z; exact absurd z (by decide))
    (case s_NotPaper_NotPoly => k_is)
    (case n_NotPaper_NotPoly => intro z; exact absurd z (by decide))
    (case s_NotPaper_NotCheck => k_is)
    (case n_NotPaper_NotCheck => intro z; exact absurd z (by decide))
    (case s_NotPaper_NotText => k_is)
    (case n_NotPaper_NotText => intro z; exact absurd z (by decide))
    (case s_NotPaper_NotPaper => k_is)
    (case s_NotPaper_BadNumber => k_is)
    (case n_NotPaper_BadNumber => intro z; exact absurd z (by decide))
    (case s_NotPaper_NoAnswer => k_is)
    (case n_NotPaper_NoAnswer => intro z; exact absurd z (by decide))
    (case s_NotPaper_TooLarge => k_is)
    (case n_NotPaper_TooLarge => intro z; exact absurd z (by decide))
    (case s_BadNumber_NotPoly => k_is)
    (case n_BadNumber_NotPoly => intro z; exact absurd z (by decide))
    (case s_BadNumber_NotCheck => k_is)
    (case n_BadNumber_NotCheck => intro z; exact absurd z (by decide))
    (case s_BadNumber_NotText => k_is)
    (case n_BadNumber_NotText => intro z; exact absurd z (by decide))
    (case s_BadNumber_NotPaper => k_is)
    (case n_BadNumber_NotPaper => intro z; exact absurd z (by decide))
    (case s_BadNumber_BadNumber => k_is)
    (case s_BadNumber_NoAnswer => k_is)
    (case n_BadNumber_NoAnswer => intro z; exact absurd z (by decide))
    (case s_BadNumber_TooLarge => k_is)
    (case n_BadNumber_TooLarge => intro z; exact absurd z (by decide))
    (case s_NoAnswer_NotPoly => k_is)
    (case n_NoAnswer_NotPoly => intro z; exact absurd z (by decide))
    (case s_NoAnswer_NotCheck => k_is)
    (case n_NoAnswer_NotCheck => intro z; exact absurd z (by decide))
    (case s_NoAnswer_NotText => k_is)
    (case n_NoAnswer_NotText => intro z; exact absurd z (by decide))
    (case s_NoAnswer_NotPaper => k_is)
    (case n_NoAnswer_NotPaper => intro z; exact absurd z (by decide))
    (case s_NoAnswer_BadNumber => k_is)
    (case n_NoAnswer_BadNumber => intro z; exact absurd z (by decide))
    (case s_NoAnswer_NoAnswer => k_is)
    (case s_NoAnswer_TooLarge => k_is)
    (case n_NoAnswer_TooLarge => intro z; exact absurd z (by decide))
    (case s_TooLarge_NotPoly => k_is)
    (case n_TooLarge_NotPoly => intro z; exact absurd z (by decide))
    (case s_TooLarge_NotCheck => k_is)
    (case n_TooLarge_NotCheck => intro z; exact absurd z (by decide))
    (case s_TooLarge_NotText => k_is)
    (case n_TooLarge_NotText => intro z; exact absurd z (by decide))
    (case s_TooLarge_NotPaper => k_is)
    (case n_TooLarge_NotPaper => intro z; exact absurd z (by decide))
    (case s_TooLarge_BadNumber => k_is)
    (case n_TooLarge_BadNumber => intro z; exact absurd z (by decide))
    (case s_TooLarge_NoAnswer => k_is)
    (case n_TooLarge_NoAnswer => intro z; exact absurd z (by decide))
    (case s_TooLarge_TooLarge => k_is)
