import PyProof.Rows.All
import HandS.ForMost
import HandS.ForExc
import HandS.TryMany
import HandS.Wide
import HandS.TupAny
import HandS.TupMul
import PyProof.Rows.IntBool
import PyProof.PureInt
import HandS.IsInst
import HandS.RaiseMore
import PyProof.NeKinds
import HandS.Text
import HandS.Style
import HandS.Dict
import HandS.Ends
import HandS.EndBits
import PyProof.NoPylong
import HandS.DictComp
import HandS.More
import PyProof.DictUpdate
import HandS.List
import PyProof.Rows.StrMeet
import HandS.Comp
import HandS.Iter
import PyProof.Rows.StrDigitsNeg
import PyProof.Rows.StrJoinMade
import PyProof.StrLawsRepr
import PySem.Challenge.RW_leanrefs_k01_programs_of_anything
set_option Elab.async false
set_option linter.all false
set_option maxRecDepth 100000

namespace Lr
open PySem PySem.Spec L2
open PyProof.Rows hiding St


inductive AV where
  | non | bl (b : Bool) | int (i : Int) | str (x : Str)
  | tup (xs : List AV) | lst (xs : List AV) | dct (kvs : List (AV × AV))
  | loc (n : Nat) | obj (k : Nat) | scr (ns : List Int) | ty (n : String)
  deriving Inhabited

inductive AO where
  | lst (xs : List AV)
  | dct (kvs : List (Key × AV))
  | ins (c : Nat) (fs : List (Str × AV))
  | dead
  deriving Inhabited

abbrev Store := List AO
inductive Res (α : Type) where
  | ok (a : α) (μ : Store)
  | ex (c : Nat) (p : Option AV) (μ : Store)
  | bad
abbrev Loc := List (Option AV)
inductive Out where
  | nx (ρ : Loc) (μ : Store)
  | rt (v : AV) (μ : Store)
  | bk (ρ : Loc) (μ : Store)
  | ct (ρ : Loc) (μ : Store)
  | ex (c : Nat) (p : Option AV) (ρ : Loc) (μ : Store)
  | bad
abbrev AE := Loc → Store → Res AV
abbrev AT := Loc → Store → Res Bool
abbrev AA := Loc → Store → Res (List AV)
abbrev AS := Loc → Store → Out
abbrev Fn := List AV → Store → Res AV

def Res.bind {α β : Type} (r : Res α) (f : α → Store → Res β) : Res β :=
  match r with
  | .ok a μ => f a μ
  | .ex c p μ => .ex c p μ
  | .bad => .bad
@[simp] theorem Res.bind_ok {α β : Type} (a : α) (μ : Store) (f : α → Store → Res β) : (Res.ok a μ).bind f = f a μ := rfl
@[simp] theorem Res.bind_ex {α β : Type} (c : Nat) (p : Option AV) (μ : Store) (f : α → Store → Res β) : (Res.ex c p μ : Res α).bind f = .ex c p μ := rfl
@[simp] theorem Res.bind_bad {α β : Type} (f : α → Store → Res β) : (Res.bad : Res α).bind f = .bad := rfl

def Res.out {α : Type} (r : Res α) (ρ : Loc) (f : α → Store → Out) : Out :=
  match r with
  | .ok a μ => f a μ
  | .ex c p μ => .ex c p ρ μ
  | .bad => .bad
@[simp] theorem Res.out_ok {α : Type} (a : α) (μ : Store) (ρ : Loc) (f : α → Store → Out) : (Res.ok a μ).out ρ f = f a μ := rfl
@[simp] theorem Res.out_ex (c : Nat) (p : Option AV) (μ : Store) (ρ : Loc) {α : Type} (f : α → Store → Out) : (Res.ex c p μ).out ρ f = .ex c p ρ μ := rfl
@[simp] theorem Res.out_bad (ρ : Loc) {α : Type} (f : α → Store → Out) : (Res.bad).out ρ f = .bad := rfl


def FzL (K : PySem.W.Frag) (H : Hp) (a : Addr) (vs : List V) : Prop := ∃ o, H a = some (.frz o (.lst vs)) ∧ a ≠ sysModules

def ScL (K : PySem.W.Frag) (H : Hp) (a : Addr) (vs : List V) : Prop := (∃ o, H a = some (.frz o (.lst vs))) ∨ SqL K (fun _ => none) a vs
theorem ScL.sq {K : PySem.W.Frag} {H : Hp} {a : Addr} {vs : List V} (h : ScL K H a vs) : SqL K H a vs := by
  rcases h with h | (h | ⟨_, h⟩) | h
  · exact .inl (.inr h)
  · cases h
  · cases h
  · exact .inr h
mutual
inductive Rel (K : PySem.W.Frag) (κ : Nat → Addr) (ι : List Addr) (H : Hp) : AV → V → Prop
  | non : Rel K κ ι H .non .non
  | bl (b : Bool) : Rel K κ ι H (.bl b) (.bl b)
  | int (i : Int) : Rel K κ ι H (.int i) (.int i)
  | str (x : Str) : Rel K κ ι H (.str x) (.str x)
  | tup {xs : List AV} {a : Addr} {vs : List V} (h : SqT K H a vs) (r : RelL K κ ι H xs vs) : Rel K κ ι H (.tup xs) (.ref a)
  | lst {xs : List AV} {a : Addr} {vs : List V} (h : FzL K H a vs) (r : RelL K κ ι H xs vs) : Rel K κ ι H (.lst xs) (.ref a)
  | dct {kvs : List (AV × AV)} {a : Addr} {o : Obj} {es : Array DictEntry} {ep : Nat} (h : H a = some (.frz o (.ext fun h => h.get? a = some o))) (ho : o.ExactDict) (hd : o.data = .dict es ep) (hn : a ≠ sysModules) (r : RelD K κ ι H kvs es.toList) : Rel K κ ι H (.dct kvs) (.ref a)
  | loc {n : Nat} {a : Addr} (h : ι[n]? = some a) : Rel K κ ι H (.loc n) (.ref a)
  | obj (k : Nat) : Rel K κ ι H (.obj k) (.ref (κ k))
  | scr {ns : List Int} {a : Addr} (h : ScL K H a (ns.map V.int)) : Rel K κ ι H (.scr ns) (.ref a)
  | ty (n : String) : Rel K κ ι H (.ty n) (.ty n)
inductive RelL (K : PySem.W.Frag) (κ : Nat → Addr) (ι : List Addr) (H : Hp) : List AV → List V → Prop
  | nil : RelL K κ ι H [] []
  | cons {x : AV} {v : V} {xs : List AV} {vs : List V} (h : Rel K κ ι H x v) (r : RelL K κ ι H xs vs) : RelL K κ ι H (x :: xs) (v :: vs)
inductive RelD (K : PySem.W.Frag) (κ : Nat → Addr) (ι : List Addr) (H : Hp) : List (AV × AV) → List DictEntry → Prop
  | nil : RelD K κ ι H [] []
  | cons {x y : AV} {v u : V} {e : DictEntry} {kvs : List (AV × AV)} {es : List DictEntry} (h : Rel K κ ι H x v) (hv : RelV v e.key) (g : Rel K κ ι H y u) (gv : RelV u e.val) (r : RelD K κ ι H kvs es) : RelD K κ ι H ((x, y) :: kvs) (e :: es)
end


structure HW (H H' : Hp) : Prop where
  tup : ∀ b xs, H b = some (.tup xs) → H' b = some (.tup xs)
  frz : ∀ b o u, H b = some (.frz o u) → H' b = some (.frz o u)
theorem HW.refl (H : Hp) : HW H H := ⟨fun _ _ h => h, fun _ _ _ h => h⟩

structure HM (ι : List Addr) (H : Hp) (ι' : List Addr) (H' : Hp) : Prop where
  pre : ι <+: ι'
  tup : ∀ b xs, H b = some (.tup xs) → H' b = some (.tup xs)
  frz : ∀ b o u, H b = some (.frz o u) → H' b = some (.frz o u)
  oth : ∀ b u, b ∉ ι → H b = some u → H' b = some u
  new : ∀ b, b ∈ ι' → b ∉ ι → H b = none
theorem HM.w {ι ι' : List Addr} {H H' : Hp} (m : HM ι H ι' H') : HW H H' := ⟨m.tup, m.frz⟩
theorem HM.refl {ι : List Addr} (H : Hp) : HM ι H ι H := ⟨List.prefix_refl _, fun _ _ h => h, fun _ _ _ h => h, fun _ _ _ h => h, fun _ h n => absurd h n⟩
theorem HM.trans {ι ι1 ι2 : List Addr} {H H1 H2 : Hp} (a : HM ι H ι1 H1) (b : HM ι1 H1 ι2 H2) : HM ι H ι2 H2 where
  pre := a.pre.trans b.pre
  tup := fun _ _ h => b.tup _ _ (a.tup _ _ h)
  frz := fun _ _ _ h => b.frz _ _ _ (a.frz _ _ _ h)
  oth := fun c u n h => b.oth c u (fun z => by rw [a.new c z n] at h; cases h) (a.oth c u n h)
  new := fun c h n => by
    by_cases z : c ∈ ι1
    · exact a.new c z n
    · have q := b.new c h z
      cases e : H c with
      | none => rfl
      | some u =>
        rw [a.oth c u n e] at q
        cases q
theorem HW.seqT {K : PySem.W.Frag} {H H' : Hp} {a : Addr} {vs : List V} (m : HW H H') (h : SqT K H a vs) : SqT K H' a vs := by
  rcases h with (h | ⟨o, h⟩) | h
  · exact .inl (.inl (m.tup _ _ h))
  · exact .inl (.inr ⟨o, m.frz _ _ _ h⟩)
  · exact .inr h
theorem HW.fz {K : PySem.W.Frag} {H H' : Hp} {a : Addr} {vs : List V} (m : HW H H') (h : FzL K H a vs) : FzL K H' a vs := let ⟨o, e, n⟩ := h; ⟨o, m.frz _ _ _ e, n⟩
theorem FzL.sq {K : PySem.W.Frag} {H : Hp} {a : Addr} {vs : List V} (h : FzL K H a vs) : SqL K H a vs := let ⟨o, e, _⟩ := h; .inl (.inr ⟨o, e⟩)

theorem HM.fresh {ι : List Addr} {H : Hp} {a : Addr} {o : HO} (h : H a = none) : HM ι H ι (upd H a o) :=
  ⟨List.prefix_refl _, fun b xs e => by rw [upd_ne (ne_of_none e h)]; exact e, fun b o' u e => by rw [upd_ne (ne_of_none e h)]; exact e, fun b u _ e => by rw [upd_ne (ne_of_none e h)]; exact e, fun _ h n => absurd h n⟩
theorem HM.wr {ι : List Addr} {H : Hp} {a : Addr} {o : HO} (h : Mut (H a)) (ha : a ∈ ι) : HM ι H ι (upd H a o) :=
  ⟨List.prefix_refl _, fun b xs e => by rw [upd_ne (fun z => by subst z; rw [e] at h; exact h)]; exact e, fun b o' u e => by rw [upd_ne (fun z => by subst z; rw [e] at h; exact h)]; exact e,
    fun b u n e => by rw [upd_ne (fun z => by subst z; exact n ha)]; exact e, fun _ h n => absurd h n⟩
section
variable {K : PySem.W.Frag} {κ : Nat → Addr} {ι ι' : List Addr} {H H' : Hp}
theorem get_prefix (p : ι <+: ι') {n : Nat} {a : Addr} (h : ι[n]? = some a) : ι'[n]? = some a := by
  obtain ⟨r, rfl⟩ := p
  have hn : n < ι.length := (List.getElem?_eq_some_iff.mp h).1
  rw [List.getElem?_append_left hn]
  exact h
end

section
variable {K : PySem.W.Frag} {κ : Nat → Addr} {ι ι' : List Addr} {H H' : Hp}
mutual
theorem Rel.monoW (p : ι <+: ι') (m : HW H H') : ∀ {x : AV} {v : V}, Rel K κ ι H x v → Rel K κ ι' H' x v
  | _, _, .non => .non
  | _, _, .bl b => .bl b
  | _, _, .int i => .int i
  | _, _, .str x => .str x
  | _, _, .tup h r => .tup (m.seqT h) (RelL.monoW p m r)
  | _, _, .lst h r => .lst (m.fz h) (RelL.monoW p m r)
  | _, _, .dct h ho hd hn r => .dct (m.frz _ _ _ h) ho hd hn (RelD.monoW p m r)
  | _, _, .loc h => .loc (get_prefix p h)
  | _, _, .obj k => .obj k
  | _, _, .scr h => .scr (h.imp (fun ⟨o, e⟩ => ⟨o, m.frz _ _ _ e⟩) id)
  | _, _, .ty n => .ty n
theorem RelL.monoW (p : ι <+: ι') (m : HW H H') : ∀ {xs : List AV} {vs : List V}, RelL K κ ι H xs vs → RelL K κ ι' H' xs vs
  | _, _, .nil => .nil
  | _, _, .cons h r => .cons (Rel.monoW p m h) (RelL.monoW p m r)
theorem RelD.monoW (p : ι <+: ι') (m : HW H H') : ∀ {xs : List (AV × AV)} {vs : List DictEntry}, RelD K κ ι H xs vs → RelD K κ ι' H' xs vs
  | _, _, .nil => .nil
  | _, _, .cons h hv g gv r => .cons (Rel.monoW p m h) hv (Rel.monoW p m g) gv (RelD.monoW p m r)
end
theorem Rel.mono (p : ι <+: ι') (m : HM ι H ι' H') {x : AV} {v : V} (h : Rel K κ ι H x v) : Rel K κ ι' H' x v := h.monoW p m.w
theorem RelL.mono (p : ι <+: ι') (m : HM ι H ι' H') {x : List AV} {v : List V} (h : RelL K κ ι H x v) : RelL K κ ι' H' x v := h.monoW p m.w
end


def RelF (K : PySem.W.Frag) (κ : Nat → Addr) (ι : List Addr) (H : Hp) : List (Str × AV) → List (Str × V) → Prop := Paired fun p q => p.1 = q.1 ∧ Rel K κ ι H p.2 q.2
def RelK (K : PySem.W.Frag) (κ : Nat → Addr) (ι : List Addr) (H : Hp) : List (Key × AV) → List (Key × V) → Prop := Paired fun p q => p.1 = q.1 ∧ Rel K κ ι H p.2 q.2
def ObjR (K : PySem.W.Frag) (κ : Nat → Addr) (ι : List Addr) (H : Hp) (a : Addr) : AO → Prop
  | .lst xs => ∃ vs, H a = some (.lst vs) ∧ RelL K κ ι H xs vs
  | .dct kvs => ∃ vs, H a = some (.dK vs) ∧ RelK K κ ι H kvs vs
  | .ins c fs => ∃ dx vs, H a = some (.ins (κ c) dx vs) ∧ RelF K κ ι H fs vs
  | .dead => True
structure SR (K : PySem.W.Frag) (κ : Nat → Addr) (ι : List Addr) (μ : Store) (H : Hp) : Prop where
  len : ι.length = μ.length
  nd : ι.Nodup
  on : ∀ a ∈ ι, H a ≠ none
  obj : ∀ (n : Nat) (o : AO) (a : Addr), μ[n]? = some o → ι[n]? = some a → ObjR K κ ι H a o
def RelS (K : PySem.W.Frag) (κ : Nat → Addr) (ι : List Addr) (H : Hp) (ρ : Loc) (σ : St) : Prop :=
  ρ.length = σ.length ∧ ∀ (i : Nat) (v : AV), ρ[i]? = some (some v) → ∃ x, σ[i]? = some (some x) ∧ Rel K κ ι H v x

def ExR (K : PySem.W.Frag) (κ : Nat → Addr) (ι : List Addr) (H : Hp) (d : Option Addr) : Option AV → Prop
  | none => True
  | some v => ∃ dx x, d = some dx ∧ H dx = some (.xd [("value", x)]) ∧ Rel K κ ι H v x
section
variable {K : PySem.W.Frag} {κ : Nat → Addr} {ι ι' : List Addr} {H H' : Hp}
theorem RelF.mono (p : ι <+: ι') (m : HW H H') {xs : List (Str × AV)} {vs : List (Str × V)} (r : RelF K κ ι H xs vs) : RelF K κ ι' H' xs vs :=
  Paired.mapP r fun _ _ z => ⟨z.1, z.2.monoW p m⟩
theorem RelK.mono (p : ι <+: ι') (m : HW H H') {xs : List (Key × AV)} {vs : List (Key × V)} (r : RelK K κ ι H xs vs) : RelK K κ ι' H' xs vs :=
  Paired.mapP r fun _ _ z => ⟨z.1, z.2.monoW p m⟩
theorem RelS.mono (p : ι <+: ι') (m : HM ι H ι' H') {ρ : Loc} {σ : St} (r : RelS K κ ι H ρ σ) : RelS K κ ι' H' ρ σ :=
  ⟨r.1, fun i v e => let ⟨x, e1, r1⟩ := r.2 i v e; ⟨x, e1, r1.mono p m⟩⟩
theorem RelL.length : ∀ {xs : List AV} {vs : List V}, RelL K κ ι H xs vs → xs.length = vs.length
  | _, _, .nil => rfl
  | _, _, .cons _ r => congrArg (· + 1) (RelL.length r)
theorem RelL.get : ∀ {xs : List AV} {vs : List V} {i : Nat} {x : AV}, RelL K κ ι H xs vs → xs[i]? = some x → ∃ v, vs[i]? = some v ∧ Rel K κ ι H x v
  | _, _, _, _, .nil, e => by simp at e
  | _, _, 0, _, .cons h _, e => by simp at e; subst e; exact ⟨_, rfl, h⟩
  | _, _, i + 1, _, .cons _ r, e => by
    obtain ⟨v, e1, r1⟩ := RelL.get (i := i) r (by simpa using e)
    exact ⟨v, by simpa using e1, r1⟩
theorem RelL.get' : ∀ {xs : List AV} {vs : List V} {i : Nat} {v : V}, RelL K κ ι H xs vs → vs[i]? = some v → ∃ x, xs[i]? = some x ∧ Rel K κ ι H x v
  | _, _, _, _, .nil, e => by simp at e
  | _, _, 0, _, .cons h _, e => by simp at e; subst e; exact ⟨_, rfl, h⟩
  | _, _, i + 1, _, .cons _ r, e => by
    obtain ⟨v, e1, r1⟩ := RelL.get' (i := i) r (by simpa using e)
    exact ⟨v, by simpa using e1, r1⟩
theorem RelL.append : ∀ {xs ys : List AV} {vs ws : List V}, RelL K κ ι H xs vs → RelL K κ ι H ys ws → RelL K κ ι H (xs ++ ys) (vs ++ ws)
  | _, _, _, _, .nil, s => s
  | _, _, _, _, .cons h r, s => .cons h (RelL.append r s)
theorem RelL.set {x : AV} {v : V} (h : Rel K κ ι H x v) : ∀ {xs : List AV} {vs : List V} (i : Nat), RelL K κ ι H xs vs → RelL K κ ι H (xs.set i x) (vs.set i v)
  | _, _, _, .nil => .nil
  | _, _, 0, .cons _ r => .cons h r
  | _, _, i + 1, .cons q r => .cons q (RelL.set h i r)
theorem RelL.take : ∀ {xs : List AV} {vs : List V} (n : Nat), RelL K κ ι H xs vs → RelL K κ ι H (xs.take n) (vs.take n)
  | _, _, 0, _ => .nil
  | _, _, _ + 1, .nil => .nil
  | _, _, n + 1, .cons h r => .cons h (RelL.take n r)
theorem RelL.drop : ∀ {xs : List AV} {vs : List V} (n : Nat), RelL K κ ι H xs vs → RelL K κ ι H (xs.drop n) (vs.drop n)
  | _, _, 0, r => r
  | _, _, _ + 1, .nil => .nil
  | _, _, n + 1, .cons _ r => RelL.drop n r
theorem RelL.reverse : ∀ {xs : List AV} {vs : List V}, RelL K κ ι H xs vs → RelL K κ ι H xs.reverse vs.reverse
  | _, _, .nil => .nil
  | _, _, .cons h r => by
    rw [List.reverse_cons, List.reverse_cons]
    exact (RelL.reverse r).append (.cons h .nil)
theorem RelL.ints : ∀ (ns : List Int), RelL K κ ι H (ns.map AV.int) (ns.map V.int)
  | [] => .nil
  | n :: ns => .cons (.int n) (RelL.ints ns)
theorem ObjR.mono (p : ι <+: ι') (m : HW H H') {a : Addr} {o : AO} (e : ∀ u, H a = some u → H' a = some u) (r : ObjR K κ ι H a o) : ObjR K κ ι' H' a o := by
  cases o with
  | lst xs => obtain ⟨vs, h, q⟩ := r; exact ⟨vs, e _ h, q.monoW p m⟩
  | dct kvs => obtain ⟨vs, h, q⟩ := r; exact ⟨vs, e _ h, q.mono p m⟩
  | ins c fs => obtain ⟨dx, vs, h, q⟩ := r; exact ⟨dx, vs, e _ h, q.mono p m⟩
  | dead => trivial

theorem SR.new {μ : Store} {a : Addr} {o : HO} (sr : SR K κ ι μ H) (h : H a = none) : SR K κ ι μ (upd H a o) :=
  ⟨sr.len, sr.nd, fun b hb => by
    by_cases z : b = a
    · subst z; exact absurd h (sr.on b hb)
    · rw [upd_ne z]; exact sr.on b hb, fun n q b h1 h2 => (sr.obj n q b h1 h2).mono (List.prefix_refl _) (HM.fresh (ι := ι) h).w fun u e => by rw [upd_ne (ne_of_none e h)]; exact e⟩

theorem SR.alloc {μ : Store} {a : Addr} {o : AO} (sr : SR K κ ι μ H) (h : ObjR K κ ι H a o) (hn : a ∉ ι) (hs : H a ≠ none) : SR K κ (ι ++ [a]) (μ ++ [o]) H := by
  have pre : ι <+: ι ++ [a] := List.prefix_append _ _
  refine ⟨by simp [sr.len], List.nodup_append.mpr ⟨sr.nd, by simp, fun x hx y hy => ?_⟩, fun b hb => ?_, fun n q b h1 h2 => ?_⟩
  · have e : y = a := by simpa using hy
    subst e
    exact fun z => hn (z ▸ hx)
  · rcases List.mem_append.mp hb with hb | hb
    · exact sr.on b hb
    · have z : b = a := by simpa using hb
      subst z
      exact hs
  · by_cases hl : n < μ.length
    · rw [List.getElem?_append_left hl] at h1
      rw [List.getElem?_append_left (by rw [sr.len]; exact hl)] at h2
      exact (sr.obj n q b h1 h2).mono pre (HW.refl _) fun _ e => e
    · have hn2 : n = μ.length := by
        have := (List.getElem?_eq_some_iff.mp h1).1
        simp at this
        omega
      subst hn2
      have e1 : o = q := by simpa using h1
      have e2 : a = b := by
        rw [← sr.len] at h2
        simpa using h2
      subst e1 e2
      exact h.mono pre (HW.refl _) fun _ e => e

theorem SR.write {μ : Store} {n : Nat} {a : Addr} {o : AO} {u : HO} (sr : SR K κ ι μ H) (e : ι[n]? = some a) (mu : Mut (H a)) (h : ObjR K κ ι (upd H a u) a o) : SR K κ ι (μ.set n o) (upd H a u) := by
  refine ⟨by simp [sr.len], sr.nd, fun b hb => ?_, fun m q b h1 h2 => ?_⟩
  · by_cases z : b = a
    · subst z; rw [upd_same]; simp
    · rw [upd_ne z]; exact sr.on b hb
  by_cases hm : m = n
  · subst hm
    have hl : m < μ.length := by rw [← sr.len]; exact (List.getElem?_eq_some_iff.mp e).1
    rw [List.getElem?_set_self hl] at h1
    rw [e] at h2
    cases h1
    cases h2
    exact h
  · rw [List.getElem?_set_ne (Ne.symm hm)] at h1
    refine (sr.obj m q b h1 h2).mono (List.prefix_refl _) (HM.wr mu (List.mem_of_getElem? e)).w fun v hv => ?_
    rw [upd_ne]
    · exact hv
    · intro z
      subst z
      exact hm (L2.nd_ix sr.nd h2 e)
end


section
variable (K : PySem.W.Frag) (κ : Nat → Addr)
def PG {α : Type} (W : WX) (σ : St) (ι : List Addr) (H : Hp) (C : α → List Addr → Hp → Prop) : Res α → Prop
  | .ok v μ' => ∀ (ι' : List Addr) (H' : Hp), ι <+: ι' → HM ι H ι' H' → SR K κ ι' μ' H' → C v ι' H'
  | .ex c p μ' => ∀ (ι' : List Addr) (H' : Hp) (d : Option Addr), ι <+: ι' → HM ι H ι' H' → SR K κ ι' μ' H' → ExR K κ ι' H' d p → W (.ref (κ c)) d σ H'
  | .bad => False
abbrev CV (Q : VK) : AV → List Addr → Hp → Prop := fun v ι' H' => ∀ x, Rel K κ ι' H' v x → Q x H'
abbrev CB (Q : Bool → Hp → Prop) : Bool → List Addr → Hp → Prop := fun b _ H' => Q b H'
abbrev CL (Q : List V → Hp → Prop) : List AV → List Addr → Hp → Prop := fun vs ι' H' => ∀ xs, RelL K κ ι' H' vs xs → Q xs H'

abbrev CN (H : Hp) (Q : VK) : List AV → List Addr → Hp → Prop := fun vs ι' H' => ∀ (a : Addr) (xs : List V), RelL K κ ι' H' vs xs → H' a = some (.lst xs) → a ∉ ι' → H a = none → a ≠ sysModules → Q (.ref a) H'
def PO' (W : WX) (ι : List Addr) (H : Hp) (D : Ends) : Out → Prop
  | .nx ρ' μ' => ∀ (ι' : List Addr) (H' : Hp) (σ' : St), ι <+: ι' → HM ι H ι' H' → SR K κ ι' μ' H' → RelS K κ ι' H' ρ' σ' → D.nx σ' H'
  | .rt v μ' => ∀ (ι' : List Addr) (H' : Hp) (x : V), ι <+: ι' → HM ι H ι' H' → SR K κ ι' μ' H' → Rel K κ ι' H' v x → D.rt x H'
  | .bk ρ' μ' => ∀ (ι' : List Addr) (H' : Hp) (σ' : St), ι <+: ι' → HM ι H ι' H' → SR K κ ι' μ' H' → RelS K κ ι' H' ρ' σ' → D.bk σ' H'
  | .ct ρ' μ' => ∀ (ι' : List Addr) (H' : Hp) (σ' : St), ι <+: ι' → HM ι H ι' H' → SR K κ ι' μ' H' → RelS K κ ι' H' ρ' σ' → D.ct σ' H'
  | .ex c p ρ' μ' => ∀ (ι' : List Addr) (H' : Hp) (σ' : St) (d : Option Addr), ι <+: ι' → HM ι H ι' H' → SR K κ ι' μ' H' → RelS K κ ι' H' ρ' σ' → ExR K κ ι' H' d p → W (.ref (κ c)) d σ' H'
  | .bad => False
variable {K κ}
variable {W : WX} {σ : St} {ι ι1 : List Addr} {H H1 : Hp}
theorem PG.mono {α : Type} {C : α → List Addr → Hp → Prop} {r : Res α} (p : ι <+: ι1) (m : HM ι H ι1 H1) (h : PG K κ W σ ι H C r) : PG K κ W σ ι1 H1 C r := by
  cases r with
  | ok v μ => exact fun ι' H' q n => h ι' H' (p.trans q) (m.trans n)
  | ex c v μ => exact fun ι' H' x q n => h ι' H' x (p.trans q) (m.trans n)
  | bad => exact h

theorem PG.bind {α β : Type} {C : β → List Addr → Hp → Prop} {C' : α → List Addr → Hp → Prop} {r : Res α} {f : α → Store → Res β} (h : PG K κ W σ ι H C (r.bind f))
    (k : ∀ (a : α) (μ1 : Store) (ι1 : List Addr) (H1 : Hp), ι <+: ι1 → HM ι H ι1 H1 → SR K κ ι1 μ1 H1 → PG K κ W σ ι1 H1 C (f a μ1) → C' a ι1 H1) : PG K κ W σ ι H C' r := by
  cases r with
  | ok v μ => exact fun ι' H' q n s => k v μ ι' H' q n s (PG.mono q n h)
  | ex c v μ => exact h
  | bad => exact h

theorem PG.bind0 {α β : Type} {C : β → List Addr → Hp → Prop} {C' : α → List Addr → Hp → Prop} {r : Res α} {f : α → Store → Res β} (h : PG K κ W σ ι H C (r.bind f))
    (k : ∀ (a : α) (μ1 : Store) (ι1 : List Addr) (H1 : Hp), ι <+: ι1 → HM ι H ι1 H1 → SR K κ ι1 μ1 H1 → PG K κ W σ ι H C (f a μ1) → C' a ι1 H1) : PG K κ W σ ι H C' r := by
  cases r with
  | ok v μ => exact fun ι' H' q n s => k v μ ι' H' q n s h
  | ex c v μ => exact h
  | bad => exact h
theorem PG.bindF {α β : Type} {ι₀ : List Addr} {H₀ : Hp} {C : β → List Addr → Hp → Prop} {C' : α → List Addr → Hp → Prop} {r : Res α} {f : α → Store → Res β} (m₀ : HM ι H ι₀ H₀) (h : PG K κ W σ ι H C (r.bind f))
    (k : ∀ (a : α) (μ1 : Store) (ι1 : List Addr) (H1 : Hp), ι₀ <+: ι1 → HM ι₀ H₀ ι1 H1 → SR K κ ι1 μ1 H1 → PG K κ W σ ι H C (f a μ1) → C' a ι1 H1) : PG K κ W σ ι₀ H₀ C' r := by
  cases r with
  | ok v μ => exact fun ι' H' q n s => k v μ ι' H' q n s h
  | ex c v μ => exact PG.mono (r := Res.ex c v μ) (C := C') m₀.pre m₀ h
  | bad => exact h
theorem PO'.mono {D : Ends} {r : Out} (p : ι <+: ι1) (m : HM ι H ι1 H1) (h : PO' K κ W ι H D r) : PO' K κ W ι1 H1 D r := by
  cases r with
  | nx ρ μ => exact fun ι' H' x q n => h ι' H' x (p.trans q) (m.trans n)
  | rt v μ => exact fun ι' H' x q n => h ι' H' x (p.trans q) (m.trans n)
  | bk ρ μ => exact fun ι' H' x q n => h ι' H' x (p.trans q) (m.trans n)
  | ct ρ μ => exact fun ι' H' x q n => h ι' H' x (p.trans q) (m.trans n)
  | ex c v ρ μ => exact fun ι' H' x d q n => h ι' H' x d (p.trans q) (m.trans n)
  | bad => exact h
theorem PO'.bind {α : Type} {D : Ends} {ρ : Loc} {C' : α → List Addr → Hp → Prop} {r : Res α} {f : α → Store → Out} (rs : RelS K κ ι H ρ σ) (h : PO' K κ W ι H D (r.out ρ f))
    (k : ∀ (a : α) (μ1 : Store) (ι1 : List Addr) (H1 : Hp), ι <+: ι1 → HM ι H ι1 H1 → SR K κ ι1 μ1 H1 → PO' K κ W ι1 H1 D (f a μ1) → C' a ι1 H1) : PG K κ W σ ι H C' r := by
  cases r with
  | ok v μ => exact fun ι' H' q n s => k v μ ι' H' q n s (PO'.mono q n h)
  | ex c v μ => exact fun ι' H' d q n s e => h ι' H' σ d q n s (rs.mono q n) e
  | bad => exact h
end


section
variable (K : PySem.W.Frag) (κ : Nat → Addr) (W : WX)
def ImE (t : TE) (r : AE) : Prop := ∀ (σ : St) (H : Hp) (Q : VK) (ι : List Addr) (ρ : Loc) (μ : Store), SR K κ ι μ H → RelS K κ ι H ρ σ → PG K κ W σ ι H (CV K κ Q) (r ρ μ) → t σ H Q
def ImT (t : TT) (r : AT) : Prop := ∀ (σ : St) (H : Hp) (Q : Bool → Hp → Prop) (ι : List Addr) (ρ : Loc) (μ : Store), SR K κ ι μ H → RelS K κ ι H ρ σ → PG K κ W σ ι H (CB Q) (r ρ μ) → t σ H Q
def ImA (t : TA) (r : AA) : Prop := ∀ (σ : St) (H : Hp) (Q : List V → Hp → Prop) (ι : List Addr) (ρ : Loc) (μ : Store), SR K κ ι μ H → RelS K κ ι H ρ σ → PG K κ W σ ι H (CL K κ Q) (r ρ μ) → t σ H Q
def ImN (t : TE) (r : AA) : Prop := ∀ (σ : St) (H : Hp) (Q : VK) (ι : List Addr) (ρ : Loc) (μ : Store), SR K κ ι μ H → RelS K κ ι H ρ σ → PG K κ W σ ι H (CN K κ H Q) (r ρ μ) → t σ H Q
def ImS (t : TS) (r : AS) : Prop := ∀ (D : Ends) (σ : St) (H : Hp) (ι : List Addr) (ρ : Loc) (μ : Store), SR K κ ι μ H → RelS K κ ι H ρ σ → PO' K κ W ι H D (r ρ μ) → t D σ H
end
def DE (κ : Nat → Addr) (X : Cx) (e : Expr) (r : AE) : Prop := ∀ W : WX, Takes X W → ∃ t, PE X e t ∧ ImE X.K κ W t r
def DT (κ : Nat → Addr) (X : Cx) (e : Expr) (r : AT) : Prop := ∀ W : WX, Takes X W → ∃ t, PT X e t ∧ ImT X.K κ W t r
def DA (κ : Nat → Addr) (X : Cx) (es : List Expr) (r : AA) : Prop := ∀ W : WX, Takes X W → ∃ t, PA X es t ∧ ImA X.K κ W t r
def DN (κ : Nat → Addr) (X : Cx) (e : Expr) (r : AA) : Prop := ∀ W : WX, Takes X W → ∃ t, PE X e t ∧ ImN X.K κ W t r
def DS (κ : Nat → Addr) (X : Cx) (s : Stmt) (r : AS) : Prop := ∀ W : WX, Takes X W → ∃ t, PS X s t ∧ ImS X.K κ W t r
def DSs (κ : Nat → Addr) (X : Cx) (s : List Stmt) (r : AS) : Prop := ∀ W : WX, Takes X W → ∃ t, PSs X s t ∧ ImS X.K κ W t r

structure Cl (X : Cx) (k : Nat) : Prop where
  calm : X.calm = true
  nd : X.N.Nodup
  room : Room k X.A
  gd : X.A.guards = some []
  sm : ∃ o, X.base.get? sysModules = some o
end Lr


namespace Lr
open PySem PySem.Spec L2
open PyProof.Rows hiding St


def eVar (i : Nat) : AE := fun ρ μ => match ρ[i]? with
  | some (some v) => .ok v μ
  | _ => .bad
def eC (v : AV) : AE := fun _ μ => .ok v μ
section
variable {κ : Nat → Addr} {X : Cx}
theorem DE.var (i : Nat) {x : Str} {pos : Pos} (hN : X.N[i]? = some x := by rfl) (hv : Vis X.env.scope x := by first | exact Or.inl rfl | exact Or.inr (Or.inl rfl) | exact Or.inr (Or.inr rfl)) (hd : (x == ("__debug__" : Str)) = false := by decide)
    (hcd : (x == ("__classdict__" : Str)) = false := by decide) : DE κ X (.Name x pos) (eVar i) := fun W _ => by
  refine ⟨tVar i, pe_var hN hv hd hcd, fun σ H Q ι ρ μ sr rs h => ?_⟩
  unfold eVar at h
  split at h
  · rename_i v e
    obtain ⟨x, e1, r1⟩ := rs.2 i v e
    exact ⟨x, e1, h ι H (List.prefix_refl _) (HM.refl _) sr x r1⟩
  · exact False.elim h
theorem DE.con {e : Expr} {v : AV} {x : V} (h : PE X e (tC x)) (r : ∀ ι H, Rel X.K κ ι H v x) : DE κ X e (eC v) := fun W _ =>
  ⟨tC x, h, fun σ H Q ι ρ μ sr rs h => h ι H (List.prefix_refl _) (HM.refl _) sr x (r ι H)⟩
theorem DE.int {i : Int} {j pos} : DE κ X (.Constant (.int i) j pos) (eC (.int i)) := .con pe_int fun _ _ => .int i
theorem DE.bl {b : Bool} {j pos} : DE κ X (.Constant (.bool b) j pos) (eC (.bl b)) := .con pe_bl fun _ _ => .bl b
theorem DE.non {j pos} : DE κ X (.Constant .none j pos) (eC .non) := .con pe_non fun _ _ => .non
theorem DE.str {x : Str} {j pos} : DE κ X (.Constant (.str x) j pos) (eC (.str x)) := .con pe_str fun _ _ => .str x

theorem DE.gint {x : Str} {i : Int} {t : Tok} {pos : Pos} (hg : Gl X x) (hm : X.mg x = some (.int i t)) (hd : (x == ("__debug__" : Str)) = false := by decide) : DE κ X (.Name x pos) (eC (.int i)) := .con (pe_glob (v := .int i) hg hm ⟨t, rfl⟩ hd) fun _ _ => .int i
theorem DE.gstr {x y : Str} {t : Tok} {pos : Pos} (hg : Gl X x) (hm : X.mg x = some (.str y t)) (hd : (x == ("__debug__" : Str)) = false := by decide) : DE κ X (.Name x pos) (eC (.str y)) := .con (pe_glob (v := .str y) hg hm ⟨t, rfl⟩ hd) fun _ _ => .str y
end


def aNil : AA := fun _ μ => .ok [] μ
def aCons (a : AE) (r : AA) : AA := fun ρ μ => (a ρ μ).bind fun x μ1 => (r ρ μ1).bind fun xs μ2 => .ok (x :: xs) μ2
def eTup (r : AA) : AE := fun ρ μ => (r ρ μ).bind fun xs μ1 => if xs.length ≤ 16777216 then .ok (.tup xs) μ1 else .bad
def aLst (r : AA) : AA := fun ρ μ => (r ρ μ).bind fun xs μ1 => if xs.length ≤ 16777216 then .ok xs μ1 else .bad
section
variable {κ : Nat → Addr} {X : Cx} {e : Expr} {es : List Expr} {r : AE} {rs : AA} {pos : Pos}
theorem DA.nil : DA κ X [] aNil := fun W _ => ⟨tNil, pa_nil, fun σ H Q ι ρ μ sr rs h => h ι H (List.prefix_refl _) (HM.refl _) sr [] .nil⟩
theorem DA.cons (ha : DE κ X e r) (hr : DA κ X es rs) (hs : starEach (e :: es) X.env = (false, eval e X.env) :: starEach es X.env := by rfl) : DA κ X (e :: es) (aCons r rs) := fun W tk => by
  obtain ⟨t, p, i⟩ := ha W tk
  obtain ⟨u, q, j⟩ := hr W tk
  refine ⟨tCons t u, pa_cons p q hs, fun σ H Q ι ρ μ sr rl h => ?_⟩
  refine i σ H _ ι ρ μ sr rl (PG.bind h fun x μ1 ι1 H1 p1 m1 sr1 h1 v rv => ?_)
  refine j σ H1 _ ι1 ρ μ1 sr1 (rl.mono p1 m1) (PG.bind h1 fun xs μ2 ι2 H2 p2 m2 sr2 h2 vs rvs => ?_)
  exact h2 ι2 H2 (List.prefix_refl _) (HM.refl _) sr2 _ (.cons (rv.mono p2 m2) rvs)
theorem line16 : sizeLine = 16777216 := sizeLine_eq

theorem DE.tup {x1} (h : DA κ X es rs) : DE κ X (.Tuple es x1 pos) (eTup rs) := fun W tk => by
  obtain ⟨t, p, i⟩ := h W tk
  refine ⟨tTup t, pe_tup p, fun σ H Q ι ρ μ sr rl h => ?_⟩
  refine i σ H _ ι ρ μ sr rl (PG.bind h fun xs μ1 ι1 H1 p1 m1 sr1 h1 vs rv => ?_)
  by_cases hz : xs.length ≤ 16777216
  · rw [if_pos hz] at h1
    refine ⟨by rw [line16, ← rv.length]; exact hz, fun a hn => ?_⟩
    exact h1 ι1 _ (List.prefix_refl _) (HM.fresh hn) (sr1.new hn) _ (.tup (.inl (.inl upd_same)) (rv.mono (List.prefix_refl _) (HM.fresh hn)))
  · rw [if_neg hz] at h1
    exact False.elim h1

theorem SR.notin {K : PySem.W.Frag} {ι : List Addr} {μ : Store} {H : Hp} {a : Addr} (sr : SR K κ ι μ H) (h : H a = none) : a ∉ ι := fun z => sr.on a z h

theorem low {k : Nat} {e : Expr} {t : TE} (c : Cl X k) (h : PE X e t) : PE X e (fun σ H Q => t σ H fun x H1 => (∀ p u, H1 p = some u → p ≠ sysModules) → Q x H1) := by
  refine ⟨fun pins s σ H Q I hw => ?_⟩
  refine thn (h.run pins s σ H _ I hw) fun v s1 ⟨x, H1, I1, r1, q1⟩ => ⟨x, H1, I1, r1, q1 fun p u hp z => ?_⟩
  subst z
  obtain ⟨o, ho⟩ := c.sm
  have := (I1.bs _ o ho).2
  rw [hp] at this
  cases this

theorem DN.mk {k : Nat} {e : Expr} {r : AA} (c : Cl X k) (h : ∀ W, Takes X W → ∃ t, PE X e t ∧ ∀ σ H Q ι ρ μ, SR X.K κ ι μ H → RelS X.K κ ι H ρ σ →
    PG X.K κ W σ ι H (fun vs ι' H' => ∀ (a : Addr) (xs : List V), RelL X.K κ ι' H' vs xs → H' a = some (.lst xs) → a ∉ ι' → H a = none → Q (.ref a) H') (r ρ μ) → t σ H Q) : DN κ X e r := fun W tk => by
  obtain ⟨t, p, i⟩ := h W tk
  refine ⟨_, low c p, fun σ H Q ι ρ μ sr rl h => ?_⟩
  refine i σ H _ ι ρ μ sr rl ?_
  revert h
  cases r ρ μ with
  | ok v μ1 => exact fun h ι' H' p m s a xs r e hn h0 hlow => h ι' H' p m s a xs r e hn h0 (hlow a _ e)
  | ex c p μ1 => exact id
  | bad => exact id

theorem okNew {K : PySem.W.Frag} {W : WX} {σ : St} {ι ι1 : List Addr} {H H1 : Hp} {Q : VK} {vs : List AV} {xs : List V} {μ μ1 : Store} {q : Addr} (sr : SR K κ ι μ H) (sr1 : SR K κ ι1 μ1 H1) (m1 : HM ι H ι1 H1)
    (h : PG K κ W σ ι H (fun vs ι' H' => ∀ (a : Addr) (xs : List V), RelL K κ ι' H' vs xs → H' a = some (.lst xs) → a ∉ ι' → H a = none → Q (.ref a) H') (.ok vs μ1)) (r : RelL K κ ι1 H1 vs xs) (hn : H1 q = none) : Q (.ref q) (upd H1 q (.lst xs)) := by
  refine h ι1 _ m1.pre (m1.trans (HM.fresh hn)) (sr1.new hn) q xs (r.mono (List.prefix_refl _) (HM.fresh hn)) upd_same (sr1.notin hn) ?_
  cases e : H q with
  | none => rfl
  | some u =>
    by_cases z : q ∈ ι
    · exact absurd hn (sr1.on q (m1.pre.subset z))
    · rw [m1.oth q u z e] at hn
      cases hn
theorem DN.lst {k : Nat} (c : Cl X k) (h : DA κ X es rs) : DN κ X (.List es pos) (aLst rs) := DN.mk c fun W tk => by
  obtain ⟨t, p, i⟩ := h W tk
  refine ⟨tLst t, pe_lst p, fun σ H Q ι ρ μ sr rl h => ?_⟩
  refine i σ H _ ι ρ μ sr rl (PG.bind0 h fun xs μ1 ι1 H1 p1 m1 sr1 h1 vs rv => ?_)
  by_cases hz : xs.length ≤ 16777216
  · rw [if_pos hz] at h1
    refine ⟨by rw [line16, ← rv.length]; exact hz, fun a hn => ?_⟩
    exact okNew sr sr1 m1 h1 rv hn
  · rw [if_neg hz] at h1
    exact False.elim h1
theorem HM.more {ι ι1 : List Addr} {H H1 : Hp} {a : Addr} (m : HM ι H ι1 H1) (h : H a = none) : HM ι H (ι1 ++ [a]) H1 :=
  ⟨m.pre.trans (List.prefix_append _ _), m.tup, m.frz, m.oth, fun b hb n => by
    rcases List.mem_append.mp hb with hb | hb
    · exact m.new b hb n
    · have e : b = a := by simpa using hb
      rw [e]
      exact h⟩

def eNew (r : AA) : AE := fun ρ μ => (r ρ μ).bind fun xs μ1 => .ok (.loc μ1.length) (μ1 ++ [.lst xs])
theorem DN.new {r : AA} (h : DN κ X e r) : DE κ X e (eNew r) := fun W tk => by
  obtain ⟨t, p, i⟩ := h W tk
  refine ⟨t, p, fun σ H Q ι ρ μ sr rl h => ?_⟩
  refine i σ H _ ι ρ μ sr rl (PG.bind0 h fun xs μ1 ι1 H1 p1 m1 sr1 h1 a vs rv ea hn h0 hs => ?_)
  have h2 : SR X.K κ (ι1 ++ [a]) (μ1 ++ [.lst xs]) H1 := sr1.alloc ⟨vs, ea, rv⟩ hn (by rw [ea]; simp)
  refine h1 (ι1 ++ [a]) H1 (p1.trans (List.prefix_append _ _)) (m1.more h0) h2 _ (.loc ?_)
  rw [← sr1.len]
  simp

def tFz (t : TE) : TE := fun σ H Q => t σ H fun x H1 => ∃ p vs, x = .ref p ∧ H1 p = some (.lst vs) ∧ ∀ o, Q x (upd H1 p (.frz o (.lst vs)))
theorem inv_frz {pins : List (Addr × Obj)} {σ : St} {H : Hp} {s : Shared} {p : Addr} {vs : List V} (I : Inv X pins σ H s) (h : H p = some (.lst vs)) : ∃ o, Inv X pins σ (upd H p (.frz o (.lst vs))) s := by
  have hk := I.hok p _ h
  obtain ⟨hz, its, n, r, e⟩ := id hk
  have ne : ∀ {b : Addr}, H b = none → b ≠ p := fun q z => by subst z; rw [h] at q; cases q
  have nt : ∀ {b : Addr} {u : HO}, H b = some u → (∀ xs, u ≠ .lst xs) → b ≠ p := fun q q2 z => by subst z; rw [h] at q; cases q; exact q2 _ rfl
  refine ⟨_, I.un (h' := s.heap) (t' := s.toks) (H' := upd H p (.frz { cls := .type "list", data := .seq its.toArray n } (.lst vs))) ⟨fun b o q _ _ _ => q, fun b o q _ _ _ => ⟨o.slots, q⟩, fun b o q n _ => by rw [upd_ne (ne n)]; exact n, fun b o q _ => ⟨o, q⟩, fun b xs q => by rw [upd_ne (nt q (fun _ => by simp))]; exact q, fun b o u q => by rw [upd_ne (nt q (fun _ => by simp))]; exact q, fun b ps q => ⟨#[], by rw [upd_ne (nt q (fun _ => by simp)), q]; simp⟩⟩ fun b u q => ?_⟩
  by_cases hb : b = p
  · subst hb
    rw [upd_same] at q
    cases q
    exact ⟨e, hz, its, n, r, e⟩
  · rw [upd_ne hb] at q
    exact (I.hok b u q).stay (fun c v _ z => z) (fun c z => by rw [upd_ne (nt z (fun _ => by simp))]; exact z) fun c xs z => by rw [upd_ne (nt z (fun _ => by simp))]; exact z
theorem pe_fz {e : Expr} {t : TE} (h : PE X e t) : PE X e (tFz t) := by
  refine ⟨fun pins s σ H Q I hw => ?_⟩
  refine thn (h.run pins s σ H _ I hw) fun v s1 ⟨x, H1, I1, r1, p, vs, ex, ep, q⟩ => ?_
  obtain ⟨o, I2⟩ := inv_frz I1 ep
  exact ⟨x, _, I2, r1, q o⟩

theorem HM.mine {ι ι1 : List Addr} {H H1 : Hp} {p : Addr} {u : HO} (m : HM ι H ι1 H1) (h : Mut (H1 p)) (h0 : H p = none ∨ p ∈ ι) : HM ι H ι1 (upd H1 p u) :=
  ⟨m.pre, fun b xs e => by rw [upd_ne (fun z => by subst z; rw [m.tup _ _ e] at h; exact h)]; exact m.tup _ _ e, fun b o v e => by rw [upd_ne (fun z => by subst z; rw [m.frz _ _ _ e] at h; exact h)]; exact m.frz _ _ _ e,
    fun b v n e => by
      rw [upd_ne (fun z => by
        subst z
        rcases h0 with h0 | h0
        · rw [e] at h0; cases h0
        · exact n h0)]
      exact m.oth b v n e, m.new⟩

def eDat (r : AA) : AE := fun ρ μ => (r ρ μ).bind fun xs μ1 => .ok (.lst xs) μ1
theorem SR.other {K : PySem.W.Frag} {ι : List Addr} {μ : Store} {H : Hp} {a : Addr} {u : HO} (sr : SR K κ ι μ H) (hm : HW H (upd H a u)) (hn : a ∉ ι) : SR K κ ι μ (upd H a u) :=
  ⟨sr.len, sr.nd, fun b hb => by rw [upd_ne (show b ≠ a from fun z => by subst z; exact hn hb)]; exact sr.on b hb, fun n q b h1 h2 => (sr.obj n q b h1 h2).mono (List.prefix_refl _) hm fun v e => by
    rw [upd_ne (show b ≠ a from fun z => by subst z; exact hn (List.mem_of_getElem? h2))]; exact e⟩
theorem DN.dat {r : AA} (h : DN κ X e r) : DE κ X e (eDat r) := fun W tk => by
  obtain ⟨t, p, i⟩ := h W tk
  refine ⟨_, pe_fz p, fun σ H Q ι ρ μ sr rl h => ?_⟩
  refine i σ H _ ι ρ μ sr rl (PG.bind0 h fun xs μ1 ι1 H1 p1 m1 sr1 h1 a vs rv ea hn h0 hs => ?_)
  refine ⟨a, vs, rfl, ea, fun o => ?_⟩
  have mu : Mut (H1 a) := by rw [ea]; trivial
  have w : HW H1 (upd H1 a (.frz o (.lst vs))) := (HM.mine (HM.refl (ι := [a]) H1) mu (.inr (by simp))).w
  exact h1 ι1 _ p1 (m1.mine mu (.inl h0)) (sr1.other w hn) _ (.lst ⟨o, upd_same, hs⟩ (rv.monoW (List.prefix_refl _) w))

def eFrz (r : AE) : AE := fun ρ μ => (r ρ μ).bind fun v μ1 => match v with
  | .loc n => match μ1[n]? with
    | some (.lst xs) => .ok (.lst xs) (μ1.set n .dead)
    | _ => .bad
  | _ => .bad
theorem DE.frz {k : Nat} {r : AE} (c : Cl X k) (h : DE κ X e r) : DE κ X e (eFrz r) := fun W tk => by
  obtain ⟨t, p, i⟩ := h W tk
  refine ⟨_, pe_fz (low c p), fun σ H Q ι ρ μ sr rl h => ?_⟩
  refine i σ H _ ι ρ μ sr rl (PG.bind h fun v μ1 ι1 H1 p1 m1 sr1 h1 x rx hl => ?_)
  cases v with
  | loc n =>
    cases rx with
    | loc e1 =>
      rename_i a
      cases q : μ1[n]? with
      | none => simp only [q] at h1; exact False.elim h1
      | some o =>
        cases o with
        | lst xs =>
          simp only [q] at h1
          obtain ⟨vs, ea, rv⟩ := sr1.obj n _ a q e1
          refine ⟨a, vs, rfl, ea, fun o => ?_⟩
          have m2 : HM ι1 H1 ι1 (upd H1 a (.frz o (.lst vs))) := HM.wr (by rw [ea]; trivial) (List.mem_of_getElem? e1)
          exact h1 ι1 _ (List.prefix_refl _) m2 (sr1.write e1 (by rw [ea]; trivial) trivial) _ (.lst ⟨o, upd_same, hl _ _ ea⟩ (rv.mono (List.prefix_refl _) m2))
        | _ => simp only [q] at h1; exact False.elim h1
  | _ => exact False.elim h1
end
end Lr


set_option maxHeartbeats 4000000
namespace L2
open PySem PySem.Spec PyProof.Rows
theorem tuple_mul1 (l : Addr) (items : Array Value) (n : Nat) (dd : Option Addr) (sl : Array (Option Value)) (u : Tok) :
    Meets (Builtin.«tuple.__mul__» ⟨[.ref l, .int 1 u], []⟩) (fun _ R s => s.heap.get? l = some { cls := .type "tuple", dict := dd, data := .seq items n, slots := sl } ∧ R (.ok (.ret (.ref l))) s) :=
  .of_wp fun prog w A R s h => by
    obtain ⟨hp, g, d, tk, os⟩ := s
    obtain ⟨hl, h⟩ := h
    have f1 := AutoSeq1.idx_int
    wp_walk using wpAny_loadPart' hl
    repeat (first
      | (refine wpAny_ite_true (decide_eq_true (by rw [Bool.or_eq_true]; exact .inr rfl)) ?_; wp_walk using wpAny_loadPart' hl)
      | (refine wpAny_ite_false (decide_eq_false (by decide)) ?_; wp_walk using wpAny_loadPart' hl))
    exact ⟨_, rfl, h⟩
theorem tuple_mul0 (l : Addr) (items : Array Value) (n : Nat) (dd : Option Addr) (sl : Array (Option Value)) (u : Tok) (hi : items.isEmpty = false) :
    Meets (Builtin.«tuple.__mul__» ⟨[.ref l, .int 0 u], []⟩) (fun _ R s => s.heap.get? l = some { cls := .type "tuple", dict := dd, data := .seq items n, slots := sl } ∧
      R (.ok (.ret (Value.ref s.heap.objs.size))) { s with heap := s.heap.push { cls := Value.type "tuple", data := Data.seq #[] }, toks := s.toks }) :=
  .of_wp fun prog w A R s h => by
    obtain ⟨hp, g, d, tk, os⟩ := s
    obtain ⟨hl, h⟩ := h
    have f1 := AutoSeq1.idx_int
    wp_walk using wpAny_loadPart' hl
    repeat (first
      | (refine wpAny_ite_false (decide_eq_false (by rw [hi]; decide)) ?_; wp_walk using wpAny_loadPart' hl)
      | (refine wpAny_ite_true (decide_eq_true (by rfl)) ?_; wp_walk using wpAny_loadPart' hl)
      | (refine wpAny_ite_false (decide_eq_false (by decide)) ?_; wp_walk using wpAny_loadPart' hl))
    exact ⟨_, rfl, h⟩
theorem op_rep01 {X : Cx} : OpR X (binaryOp .Mult) (fun x y H Q => ∃ l k xs, x = V.ref l ∧ y = V.int k ∧ SqT X.K H l xs ∧ xs ≠ [] ∧ ((k = 1 ∧ Q x H) ∨ (k = 0 ∧ ∀ p, H p = none → Q (.ref p) (upd H p (.tup []))))) := by
  intro pins s σ H x y v u Q I rx ry h
  obtain ⟨l, k, xs, rfl, rfl, hT, hne, q⟩ := h
  cases rx
  obtain ⟨t, rfl⟩ := ry
  obtain ⟨its, r, ⟨⟨cls, dd, data, sl⟩, ho, hc, n, hd⟩, hs⟩ := I.tuple hT
  simp only at hc hd
  subst hc hd
  have hle : its.length = xs.length := r.length.symm
  have hi : its.toArray.isEmpty = false := by
    cases its with
    | nil => exact absurd (List.eq_nil_of_length_eq_zero hle.symm) hne
    | cons a b => rfl
  rcases q with ⟨rfl, q⟩ | ⟨rfl, q⟩
  · refine wpAny_binaryOp_repeat_ref (T := "tuple") (U := "int") (by decide) ⟨_, ho, rfl⟩ (fun s' => typeIs_int s' 1 t) noFill_tuple_mul F.fills_int_mul F.slot_int_rmul repeat_tuple F.slot_int_index.lookup
      (call_meets F.slot_int_rmul (typeIs_int s 1 t) F.entry_int_rmul (F.args_int_rmul_2 _ _) (int_rmul_tuple 1 t l its.toArray n dd sl)
        ⟨ho, rfl, ⟨_, ho, rfl⟩, call_meets F.slot_tuple_mul ⟨_, ho, rfl⟩ F.entry_tuple_mul (F.args_tuple_mul_2 _ _) (tuple_mul1 l its.toArray n dd sl t) ⟨ho, ?_⟩⟩)
    exact ⟨.ref l, H, I, rfl, q⟩
  · refine wpAny_binaryOp_repeat_ref (T := "tuple") (U := "int") (by decide) ⟨_, ho, rfl⟩ (fun s' => typeIs_int s' 0 t) noFill_tuple_mul F.fills_int_mul F.slot_int_rmul repeat_tuple F.slot_int_index.lookup
      (call_meets F.slot_int_rmul (typeIs_int s 0 t) F.entry_int_rmul (F.args_int_rmul_2 _ _) (int_rmul_tuple 0 t l its.toArray n dd sl)
        ⟨ho, rfl, ⟨_, ho, rfl⟩, call_meets F.slot_tuple_mul ⟨_, ho, rfl⟩ F.entry_tuple_mul (F.args_tuple_mul_2 _ _) (tuple_mul0 l its.toArray n dd sl t hi) ⟨ho, ?_⟩⟩)
    refine ⟨.ref s.heap.objs.size, _, I.laid (t' := s.toks) (o := .tup []) (fun b ob q => Heap.get?_push_of_some _ q) (Nat.le_refl _) ?_, rfl, q _ (I.hok.fresh (Nat.le_refl _))⟩
    exact ⟨Nat.zero_le _, [], .nil, IsTup.new _ _⟩
end L2
set_option maxHeartbeats 200000
namespace Lr
open PySem PySem.Spec L2
open PyProof.Rows hiding St

abbrev G2 := AV → AV → Store → Res AV
def rA (K : PySem.W.Frag) (κ : Nat → Addr) (W : WX) (g : G2) : R2 := fun x y H Q => ∃ (σ : St) (ι : List Addr) (μ : Store) (a b : AV), SR K κ ι μ H ∧ Rel K κ ι H a x ∧ Rel K κ ι H b y ∧ PG K κ W σ ι H (CV K κ Q) (g a b μ)

def OpA (κ : Nat → Addr) (X : Cx) (f : Value → Value → Sem Value) (g : G2) : Prop := ∀ W, Takes X W → OpR X f (rA X.K κ W g)
def eOp (g : G2) (a b : AE) : AE := fun ρ μ => (a ρ μ).bind fun x μ1 => (b ρ μ1).bind fun y μ2 => g x y μ2
section
variable {κ : Nat → Addr} {X : Cx} {a b e : Expr} {ra rb r : AE} {pos : Pos} {g : G2}
theorem im_op {K : PySem.W.Frag} {W : WX} {ta tb : TE} (ia : ImE K κ W ta ra) (ib : ImE K κ W tb rb) : ImE K κ W (tOp (rA K κ W g) ta tb) (eOp g ra rb) := fun σ H Q ι ρ μ sr rl h => by
  refine ia σ H _ ι ρ μ sr rl (PG.bind h fun x μ1 ι1 H1 p1 m1 sr1 h1 v rv => ?_)
  refine ib σ H1 _ ι1 ρ μ1 sr1 (rl.mono p1 m1) (PG.bind h1 fun y μ2 ι2 H2 p2 m2 sr2 h2 u ru => ?_)
  exact ⟨σ, ι2, μ2, x, y, sr2, rv.mono p2 m2, ru, h2⟩
theorem DE.op {op : Operator} (ho : OpA κ X (binaryOp op) g) (ha : DE κ X a ra) (hb : DE κ X b rb) : DE κ X (.BinOp a op b pos) (eOp g ra rb) := fun W tk => by
  obtain ⟨ta, pa, ia⟩ := ha W tk
  obtain ⟨tb, pb, ib⟩ := hb W tk
  exact ⟨_, pe_op (ho W tk) pa pb, im_op ia ib⟩
theorem DE.cmp {op : CmpOp} (ho : OpA κ X (compareOp op) g) (ha : DE κ X a ra) (hb : DE κ X b rb) (hm : behindInMarks op b = false := by first | exact nomark _ | rfl) : DE κ X (.Compare a [op] [b] pos) (eOp g ra rb) := fun W tk => by
  obtain ⟨ta, pa, ia⟩ := ha W tk
  obtain ⟨tb, pb, ib⟩ := hb W tk
  exact ⟨_, pe_cmpR (ho W tk) pa pb hm, im_op ia ib⟩
theorem ok1 {K : PySem.W.Frag} {W : WX} {σ : St} {ι : List Addr} {H : Hp} {Q : VK} {v : AV} {x : V} {μ : Store} (sr : SR K κ ι μ H) (h : PG K κ W σ ι H (CV K κ Q) (.ok v μ)) (r : Rel K κ ι H v x) : Q x H :=
  h ι H (List.prefix_refl _) (HM.refl _) sr x r

theorem okT {K : PySem.W.Frag} {W : WX} {σ : St} {ι : List Addr} {H : Hp} {Q : VK} {vs : List AV} {xs : List V} {μ : Store} {p : Addr} (sr : SR K κ ι μ H) (h : PG K κ W σ ι H (CV K κ Q) (.ok (.tup vs) μ)) (r : RelL K κ ι H vs xs) (hn : H p = none) : Q (.ref p) (upd H p (.tup xs)) :=
  h ι _ (List.prefix_refl _) (HM.fresh hn) (sr.new hn) _ (.tup (.inl (.inl upd_same)) (r.mono (List.prefix_refl _) (HM.fresh hn)))


def gAdd : G2 := fun x y μ => match x, y with
  | .int i, .int j => .ok (.int (i + j)) μ
  | .bl b, .int j => .ok (.int ((if b then 1 else 0) + j)) μ
  | .str a, .str b => if a.length + b.length ≤ 16777216 then .ok (.str (a ++ b)) μ else .bad
  | .tup xs, .tup ys => if xs.length + ys.length ≤ 16777216 then .ok (.tup (xs ++ ys)) μ else .bad
  | _, _ => .bad
theorem op_gAdd : OpA κ X (binaryOp .Add) gAdd := fun W tk pins s σ H x y v u Q I rx ry hh => by
  obtain ⟨σ0, ι, μ, a, b, sr, ra, rb, h⟩ := hh
  cases a <;> cases b <;> first | exact False.elim h | skip
  · cases ra; cases rb
    obtain ⟨t, rfl⟩ := ry
    cases rx
    exact IntBool.add_bool_int ⟨.int _, H, I.tok _, ⟨_, rfl⟩, ok1 sr h (.int _)⟩
  · cases ra; cases rb
    exact op_add pins s σ H _ _ v u Q I rx ry ⟨_, _, rfl, rfl, ok1 sr h (.int _)⟩
  · cases ra; cases rb
    rename_i a b
    by_cases hz : a.length + b.length ≤ 16777216
    · simp only [gAdd, if_pos hz] at h
      exact op_add_str pins s σ H _ _ v u Q I rx ry ⟨_, _, rfl, rfl, by rw [line16]; exact hz, ok1 sr h (.str _)⟩
    · simp only [gAdd, if_neg hz] at h
      exact False.elim h
  · rename_i as bs
    cases ra with
    | tup h1 r1 =>
      cases rb with
      | tup h2 r2 =>
        rename_i a1 vs1 a2 vs2
        by_cases hz : as.length + bs.length ≤ 16777216
        · simp only [gAdd, if_pos hz] at h
          refine op_catA pins s σ H _ _ v u Q I rx ry ⟨_, _, _, _, rfl, rfl, h1, h2, by rw [line16, ← r1.length, ← r2.length]; exact hz, fun e => ?_, fun _ e => ?_, fun _ _ p hn => ?_⟩
          · subst e
            cases r1
            exact ok1 sr h (.tup h2 r2)
          · subst e
            cases r2
            rw [List.append_nil] at h
            exact ok1 sr h (.tup h1 r1)
          · exact okT sr h (r1.append r2) hn
        · simp only [gAdd, if_neg hz] at h
          exact False.elim h
def gSub : G2 := fun x y μ => match x, y with
  | .int i, .int j => .ok (.int (i - j)) μ
  | .bl b, .int j => .ok (.int ((if b then 1 else 0) - j)) μ
  | _, _ => .bad
theorem op_gSub : OpA κ X (binaryOp .Sub) gSub := fun W tk pins s σ H x y v u Q I rx ry hh => by
  obtain ⟨σ0, ι, μ, a, b, sr, ra, rb, h⟩ := hh
  cases a <;> cases b <;> first | exact False.elim h | skip
  · cases ra; cases rb
    obtain ⟨t, rfl⟩ := ry
    cases rx
    exact IntBool.sub_bool_int ⟨.int _, H, I.tok _, ⟨_, rfl⟩, ok1 sr h (.int _)⟩
  cases ra; cases rb
  exact op_sub pins s σ H _ _ v u Q I rx ry ⟨_, _, rfl, rfl, ok1 sr h (.int _)⟩
def mulOk (i j : Int) : Bool := decide (i.natAbs < 2 ^ 64) || decide (j.natAbs < 2 ^ 64) || (decide (i.natAbs < 2 ^ 4000) && decide (j.natAbs < 2 ^ 4000))
theorem mulOk_ok {i j : Int} (h : mulOk i j = true) : IntMulOk i j := by
  unfold mulOk at h
  simp only [Bool.or_eq_true, Bool.and_eq_true, decide_eq_true_eq] at h
  rcases h with (h | h) | ⟨h1, h2⟩
  · exact .of_left (intBits_le_64 (by omega) (by omega))
  · exact .of_right (intBits_le_64 (by omega) (by omega))
  · exact (wide_mul h1 h2 (by decide) (by decide) (by decide)).ok
def gMul : G2 := fun x y μ => match x, y with
  | .int i, .int j => if mulOk i j then .ok (.int (i * j)) μ else .bad
  | .tup xs, .int k => if !xs.isEmpty && decide (0 ≤ k) && decide (k ≤ 1000) && decide (xs.length ≤ 1000) then .ok (.tup (List.replicate k.toNat xs).flatten) μ else .bad
  | _, _ => .bad
theorem RelL.rep {K : PySem.W.Frag} {ι : List Addr} {H : Hp} {xs : List AV} {vs : List V} (r : RelL K κ ι H xs vs) : ∀ k : Nat, RelL K κ ι H (List.replicate k xs).flatten (List.replicate k vs).flatten
  | 0 => .nil
  | k + 1 => by
    rw [List.replicate_succ, List.replicate_succ, List.flatten_cons, List.flatten_cons]
    exact r.append (RelL.rep r k)
theorem op_gMul : OpA κ X (binaryOp .Mult) gMul := fun W tk pins s σ H x y v u Q I rx ry hh => by
  obtain ⟨σ0, ι, μ, a, b, sr, ra, rb, h⟩ := hh
  cases a <;> cases b <;> first | exact False.elim h | skip
  · cases ra; cases rb
    rename_i i j
    by_cases hz : mulOk i j = true
    · simp only [gMul, if_pos hz] at h
      obtain ⟨t, rfl⟩ := rx
      obtain ⟨t', rfl⟩ := ry
      exact mul_int ⟨.int _, H, I.tok _, ⟨_, rfl⟩, ok1 sr h (.int _)⟩ (mulOk_ok hz)
    · simp only [gMul, if_neg hz] at h
      exact False.elim h
  · rename_i as k
    cases rb
    cases ra with
    | tup h1 r1 =>
      rename_i a1 vs1
      by_cases hz : (!as.isEmpty && decide (0 ≤ k) && decide (k ≤ 1000) && decide (as.length ≤ 1000)) = true
      · simp only [gMul, if_pos hz] at h
        simp only [Bool.and_eq_true, decide_eq_true_eq, Bool.not_eq_true'] at hz
        obtain ⟨⟨⟨z1, z2⟩, z3⟩, z4⟩ := hz
        have hne : vs1 ≠ [] := fun e => by
          subst e
          cases r1
          cases z1
        by_cases k2 : 2 ≤ k
        · exact op_repT pins s σ H _ _ v u Q I rx ry ⟨_, _, _, rfl, rfl, h1, hne, k2, z3, by rw [← r1.length]; exact z4, fun p hn => okT sr h (r1.rep _) hn⟩
        · refine op_rep01 pins s σ H _ _ v u Q I rx ry ⟨_, _, _, rfl, rfl, h1, hne, ?_⟩
          have hk : k = 1 ∨ k = 0 := by omega
          rcases hk with rfl | rfl
          · refine .inl ⟨rfl, ok1 sr h ?_⟩
            have e1 : (List.replicate (Int.toNat 1) as).flatten = as := by simp
            rw [e1]
            exact .tup h1 r1
          · exact .inr ⟨rfl, fun p hn => okT sr h .nil hn⟩
      · simp only [gMul, if_neg hz] at h
        exact False.elim h
def gDiv : G2 := fun x y μ => match x, y with
  | .int i, .int j => if decide (0 < j) && decide (j.natAbs < 2 ^ 4000) then .ok (.int (i / j)) μ else .bad
  | _, _ => .bad
theorem op_gDiv : OpA κ X (binaryOp .FloorDiv) gDiv := fun W tk pins s σ H x y v u Q I rx ry hh => by
  obtain ⟨σ0, ι, μ, a, b, sr, ra, rb, h⟩ := hh
  cases a <;> cases b <;> first | exact False.elim h | skip
  cases ra; cases rb
  rename_i i j
  by_cases hz : (decide (0 < j) && decide (j.natAbs < 2 ^ 4000)) = true
  · simp only [gDiv, if_pos hz] at h
    simp only [Bool.and_eq_true, decide_eq_true_eq] at hz
    exact op_fdivW pins s σ H _ _ v u Q I rx ry ⟨_, _, rfl, rfl, wide_div hz.1 hz.2 (by decide) (by decide), ok1 sr h (.int _)⟩
  · simp only [gDiv, if_neg hz] at h
    exact False.elim h
def gMod : G2 := fun x y μ => match x, y with
  | .int i, .int j => if decide (0 < j) then .ok (.int (i % j)) μ else .bad
  | _, _ => .bad
theorem op_gMod : OpA κ X (binaryOp .Mod) gMod := fun W tk pins s σ H x y v u Q I rx ry hh => by
  obtain ⟨σ0, ι, μ, a, b, sr, ra, rb, h⟩ := hh
  cases a <;> cases b <;> first | exact False.elim h | skip
  cases ra; cases rb
  rename_i i j
  by_cases hz : decide (0 < j) = true
  · simp only [gMod, if_pos hz] at h
    exact op_mod pins s σ H _ _ v u Q I rx ry ⟨_, _, rfl, rfl, of_decide_eq_true hz, ok1 sr h (.int _)⟩
  · simp only [gMod, if_neg hz] at h
    exact False.elim h
def gPow : G2 := fun x y μ => match x, y with
  | .int i, .int j => if decide (0 ≤ j) && decide (j ≤ 1000) && decide (i.natAbs < 2 ^ 64) then .ok (.int (i ^ j.toNat)) μ else .bad
  | _, _ => .bad
theorem op_gPow : OpA κ X (binaryOp .Pow) gPow := fun W tk pins s σ H x y v u Q I rx ry hh => by
  obtain ⟨σ0, ι, μ, a, b, sr, ra, rb, h⟩ := hh
  cases a <;> cases b <;> first | exact False.elim h | skip
  cases ra; cases rb
  rename_i i j
  by_cases hz : (decide (0 ≤ j) && decide (j ≤ 1000) && decide (i.natAbs < 2 ^ 64)) = true
  · simp only [gPow, if_pos hz] at h
    simp only [Bool.and_eq_true, decide_eq_true_eq] at hz
    exact op_pow pins s σ H _ _ v u Q I rx ry ⟨_, _, rfl, rfl, ⟨hz.1.1, by omega, hz.2⟩, ok1 sr h (.int _)⟩
  · simp only [gPow, if_neg hz] at h
    exact False.elim h

def gLt : G2 := fun x y μ => match x, y with
  | .int i, .int j => .ok (.bl (decide (i < j))) μ
  | _, _ => .bad
def gLe : G2 := fun x y μ => match x, y with
  | .int i, .int j => .ok (.bl (decide (i ≤ j))) μ
  | _, _ => .bad
def gGt : G2 := fun x y μ => match x, y with
  | .int i, .int j => .ok (.bl (decide (j < i))) μ
  | _, _ => .bad
def gGe : G2 := fun x y μ => match x, y with
  | .int i, .int j => .ok (.bl (decide (j ≤ i))) μ
  | _, _ => .bad
theorem op_gLt : OpA κ X (compareOp .Lt) gLt := fun W tk pins s σ H x y v u Q I rx ry hh => by
  obtain ⟨σ0, ι, μ, a, b, sr, ra, rb, h⟩ := hh
  cases a <;> cases b <;> first | exact False.elim h | skip
  cases ra; cases rb
  exact op_lt pins s σ H _ _ v u Q I rx ry ⟨_, _, rfl, rfl, ok1 sr h (.bl _)⟩
theorem op_gLe : OpA κ X (compareOp .LtE) gLe := fun W tk pins s σ H x y v u Q I rx ry hh => by
  obtain ⟨σ0, ι, μ, a, b, sr, ra, rb, h⟩ := hh
  cases a <;> cases b <;> first | exact False.elim h | skip
  cases ra; cases rb
  exact op_le pins s σ H _ _ v u Q I rx ry ⟨_, _, rfl, rfl, ok1 sr h (.bl _)⟩
theorem op_gGt : OpA κ X (compareOp .Gt) gGt := fun W tk pins s σ H x y v u Q I rx ry hh => by
  obtain ⟨σ0, ι, μ, a, b, sr, ra, rb, h⟩ := hh
  cases a <;> cases b <;> first | exact False.elim h | skip
  cases ra; cases rb
  exact op_gt pins s σ H _ _ v u Q I rx ry ⟨_, _, rfl, rfl, ok1 sr h (.bl _)⟩
theorem op_gGe : OpA κ X (compareOp .GtE) gGe := fun W tk pins s σ H x y v u Q I rx ry hh => by
  obtain ⟨σ0, ι, μ, a, b, sr, ra, rb, h⟩ := hh
  cases a <;> cases b <;> first | exact False.elim h | skip
  cases ra; cases rb
  exact op_ge pins s σ H _ _ v u Q I rx ry ⟨_, _, rfl, rfl, ok1 sr h (.bl _)⟩

def isNon : AV → Bool
  | .non => true
  | _ => false
def gIs : G2 := fun x y μ => match y with
  | .non => .ok (.bl (isNon x)) μ
  | _ => .bad
def gIsNot : G2 := fun x y μ => match y with
  | .non => .ok (.bl (!isNon x)) μ
  | _ => .bad
theorem non_rel {K : PySem.W.Frag} {ι : List Addr} {H : Hp} {a : AV} {x : V} (r : Rel K κ ι H a x) : decide (x = .non) = isNon a := by
  cases r <;> rfl
theorem op_gIs : OpA κ X (compareOp .Is) gIs := fun W tk pins s σ H x y v u Q I rx ry hh => by
  obtain ⟨σ0, ι, μ, a, b, sr, ra, rb, h⟩ := hh
  cases b <;> first | exact False.elim h | skip
  cases rb
  exact op_isN pins s σ H _ _ v u Q I rx ry ⟨rfl, by rw [non_rel ra]; exact ok1 sr h (.bl _)⟩
theorem op_gIsNot : OpA κ X (compareOp .IsNot) gIsNot := fun W tk pins s σ H x y v u Q I rx ry hh => by
  obtain ⟨σ0, ι, μ, a, b, sr, ra, rb, h⟩ := hh
  cases b <;> first | exact False.elim h | skip
  cases rb
  exact op_notN pins s σ H _ _ v u Q I rx ry ⟨rfl, by rw [non_rel ra]; exact ok1 sr h (.bl _)⟩
theorem gives_neg_bool (b : Bool) : Gives (Builtin.«int.__neg__» ⟨[.bool b], []⟩) (.int (-(if b = true then (1 : Int) else 0))) := .of_eq rfl
theorem neg_bool {prog : Program} {w : World} {A : Around} {E : Value → Shared → Prop} {s : Shared} {b : Bool} {Q : Value → Shared → Prop} (h : Q (.int (-(if b = true then (1 : Int) else 0)) s.toks) { s with toks := s.toks + 1 }) : wpAny (model prog w) A (unaryOp .USub (.bool b)) Q E s :=
  unaryOp_gives (op := .USub) (T := "bool") rfl rfl F.slot_bool_neg F.entry_int_neg (F.args_int_neg_1 _) (gives_neg_bool b) h
theorem un_negB : UnR X (unaryOp .USub) (fun x H Q => (∃ i, x = .int i ∧ Q (.int (-i)) H) ∨ ∃ b : Bool, x = .bl b ∧ Q (.int (-(if b = true then (1 : Int) else 0))) H) := by
  intro pins s σ H x v Q I rx h
  rcases h with ⟨i, rfl, q⟩ | ⟨b, rfl, q⟩
  · obtain ⟨t, rfl⟩ := rx
    exact neg_int ⟨.int _, H, I.tok _, ⟨_, rfl⟩, q⟩
  · cases rx
    exact neg_bool ⟨.int _, H, I.tok _, ⟨_, rfl⟩, q⟩

def eNeg (a : AE) : AE := fun ρ μ => (a ρ μ).bind fun x μ1 => match x with
  | .int i => .ok (.int (-i)) μ1
  | .bl b => .ok (.int (-(if b then 1 else 0))) μ1
  | _ => .bad
theorem DE.neg (ha : DE κ X a ra) : DE κ X (.UnaryOp .USub a pos) (eNeg ra) := fun W tk => by
  obtain ⟨ta, pa, ia⟩ := ha W tk
  refine ⟨_, pe_un un_negB pa, fun σ H Q ι ρ μ sr rl h => ?_⟩
  refine ia σ H _ ι ρ μ sr rl (PG.bind h fun x μ1 ι1 H1 p1 m1 sr1 h1 v rv => ?_)
  cases x <;> first | exact False.elim h1 | skip
  · cases rv
    exact .inr ⟨_, rfl, ok1 sr1 h1 (.int _)⟩
  · cases rv
    exact .inl ⟨_, rfl, ok1 sr1 h1 (.int _)⟩
end
end Lr


namespace Lr
open PySem PySem.Spec L2
open PyProof.Rows hiding St


mutual
def dep : AV → Nat
  | .tup xs => depL xs + 1
  | .lst xs => depL xs + 1
  | .dct kvs => depD kvs + 1
  | _ => 0
def depL : List AV → Nat
  | [] => 0
  | x :: xs => max (dep x) (depL xs)
def depD : List (AV × AV) → Nat
  | [] => 0
  | (x, y) :: xs => max (max (dep x) (dep y)) (depD xs)
end
mutual
def eqv : AV → AV → Option Bool
  | .non, .non => some true
  | .bl a, .bl b => some (a == b)
  | .bl a, .int j => some ((if a then 1 else 0) == j)
  | .int i, .bl b => some (i == (if b then 1 else 0))
  | .int i, .int j => some (i == j)
  | .str x, .str y => some (x == y)
  | .tup xs, .tup ys => eqvL xs ys
  | .lst xs, .lst ys => if xs.length = ys.length then eqvL xs ys else some false
  | .non, .bl _ => some false | .non, .int _ => some false | .non, .str _ => some false | .non, .tup _ => some false | .non, .lst _ => some false
  | .bl _, .non => some false | .bl _, .str _ => some false | .bl _, .tup _ => some false | .bl _, .lst _ => some false
  | .int _, .non => some false | .int _, .str _ => some false | .int _, .tup _ => some false | .int _, .lst _ => some false
  | .str _, .non => some false | .str _, .bl _ => some false | .str _, .int _ => some false | .str _, .tup _ => some false | .str _, .lst _ => some false
  | .tup _, .non => some false | .tup _, .bl _ => some false | .tup _, .int _ => some false | .tup _, .str _ => some false | .tup _, .lst _ => some false
  | .lst _, .non => some false | .lst _, .bl _ => some false | .lst _, .int _ => some false | .lst _, .str _ => some false | .lst _, .tup _ => some false
  | _, _ => none
def eqvL : List AV → List AV → Option Bool
  | [], [] => some true
  | [], _ :: _ => some false
  | _ :: _, [] => some false
  | x :: xs, y :: ys => match eqv x y, eqvL xs ys with
    | some a, some b => some (a && b)
    | _, _ => none
end
section
variable {κ : Nat → Addr} {X : Cx} {pins : List (Addr × Obj)} {σ : St} {H : Hp} {s : Shared} {ι : List Addr}
mutual
theorem rel_same (I : Inv X pins σ H s) : ∀ (a b : AV) (x : V) (r : Bool), Rel X.K κ ι H a x → Rel X.K κ ι H b x → eqv a b = some r → r = true
  | .non, b, x, r, h, g, e => by
    cases h; cases g
    simpa [eqv] using e.symm
  | .bl p, b, x, r, h, g, e => by
    cases h; cases g
    simpa [eqv] using e.symm
  | .int p, b, x, r, h, g, e => by
    cases h; cases g
    simpa [eqv] using e.symm
  | .str p, b, x, r, h, g, e => by
    cases h; cases g
    simpa [eqv] using e.symm
  | .tup xs, b, x, r, h, g, e => by
    cases b <;> first | (simp only [eqv] at e; cases e; done) | skip
    all_goals first | (cases h; cases g; done) | skip
    · rename_i ys
      cases h with
      | tup h1 r1 =>
        cases g with
        | tup h2 r2 =>
          have ev := I.tuple_inj h1 h2
          subst ev
          exact rel_sameL I xs ys _ r r1 r2 (by simpa [eqv] using e)
    · rename_i ys
      cases h with
      | tup h1 r1 =>
        cases g with
        | lst h2 r2 =>
          obtain ⟨_, _, ⟨o1, g1, c1, _⟩, _⟩ := I.tuple h1
          obtain ⟨_, _, ⟨o2, n2, g2, c2, _⟩, _⟩ := I.list h2.sq
          rw [g1] at g2
          cases g2
          rw [c1] at c2
          injection c2 with q
          exact absurd q (by decide)
  | .lst xs, b, x, r, h, g, e => by
    cases b <;> first | (simp only [eqv] at e; cases e; done) | skip
    all_goals first | (cases h; cases g; done) | skip
    · rename_i ys
      cases h with
      | lst h1 r1 =>
        cases g with
        | tup h2 r2 =>
          obtain ⟨_, _, ⟨o1, g1, c1, _⟩, _⟩ := I.tuple h2
          obtain ⟨_, _, ⟨o2, n2, g2, c2, _⟩, _⟩ := I.list h1.sq
          rw [g1] at g2
          cases g2
          rw [c1] at c2
          injection c2 with q
          exact absurd q (by decide)
    · rename_i ys
      cases h with
      | lst h1 r1 =>
        cases g with
        | lst h2 r2 =>
          have ev := I.list_inj h1.sq h2.sq
          subst ev
          have el : xs.length = ys.length := r1.length.trans r2.length.symm
          rw [eqv, if_pos el] at e
          exact rel_sameL I xs ys _ r r1 r2 e
  | .dct _, b, _, _, _, _, e => by cases b <;> (simp only [eqv] at e; cases e)
  | .loc _, b, _, _, _, _, e => by cases b <;> (simp only [eqv] at e; cases e)
  | .obj _, b, _, _, _, _, e => by cases b <;> (simp only [eqv] at e; cases e)
  | .scr _, b, _, _, _, _, e => by cases b <;> (simp only [eqv] at e; cases e)
  | .ty _, b, _, _, _, _, e => by cases b <;> (simp only [eqv] at e; cases e)
theorem rel_sameL (I : Inv X pins σ H s) : ∀ (as bs : List AV) (xs : List V) (r : Bool), RelL X.K κ ι H as xs → RelL X.K κ ι H bs xs → eqvL as bs = some r → r = true
  | [], bs, xs, r, h, g, e => by
    cases h; cases g
    simpa [eqvL] using e.symm
  | a :: as, bs, xs, r, h, g, e => by
    cases h with
    | cons h1 h2 =>
      cases g with
      | cons g1 g2 =>
        rename_i b bs'
        unfold eqvL at e
        cases q1 : eqv a b with
        | none => rw [q1] at e; cases e
        | some r1 =>
          cases q2 : eqvL as bs' with
          | none => rw [q1, q2] at e; cases e
          | some r2 =>
            rw [q1, q2] at e
            cases e
            rw [rel_same I a b _ r1 h1 g1 q1, rel_sameL I as bs' _ r2 h2 g2 q2]
            rfl
end

theorem all_eqvL : ∀ {as bs : List AV} {r : Bool}, eqvL as bs = some r → ∃ f : Nat → Bool, (∀ (j : Nat) (a b : AV), as[j]? = some a → bs[j]? = some b → eqv a b = some (f j)) ∧ r = ((List.range (min as.length bs.length)).all f && as.length == bs.length)
  | [], [], r, e => ⟨fun _ => true, fun j a b h => by simp at h, by simpa [eqvL] using e.symm⟩
  | [], _ :: _, r, e => ⟨fun _ => true, fun j a b h => by simp at h, by simpa [eqvL] using e.symm⟩
  | _ :: _, [], r, e => ⟨fun _ => true, fun j a b _ h => by simp at h, by simpa [eqvL] using e.symm⟩
  | x :: xs, y :: ys, r, e => by
    unfold eqvL at e
    cases q1 : eqv x y with
    | none => rw [q1] at e; cases e
    | some r1 =>
      cases q2 : eqvL xs ys with
      | none => rw [q1, q2] at e; cases e
      | some r2 =>
        rw [q1, q2] at e
        cases e
        obtain ⟨f, h1, h2⟩ := all_eqvL q2
        refine ⟨fun j => match j with | 0 => r1 | j + 1 => f j, fun j a b ha hb => ?_, ?_⟩
        · cases j with
          | zero => simp at ha hb; subst ha hb; exact q1
          | succ j => exact h1 j a b (by simpa using ha) (by simpa using hb)
        · rw [h2, List.length_cons, List.length_cons, show min (xs.length + 1) (ys.length + 1) = min xs.length ys.length + 1 by omega, List.range_succ_eq_map, List.all_cons, List.all_map, Bool.and_assoc]
          have : (xs.length + 1 == ys.length + 1) = (xs.length == ys.length) := by simp
          rw [this]
          rfl
theorem depL_get : ∀ {xs : List AV} {j : Nat} {a : AV}, xs[j]? = some a → dep a ≤ depL xs
  | [], _, _, h => by simp at h
  | x :: xs, 0, a, h => by
    simp at h; subst h
    unfold depL
    exact Nat.le_max_left _ _
  | x :: xs, j + 1, a, h => by
    unfold depL
    exact Nat.le_trans (depL_get (j := j) (by simpa using h)) (Nat.le_max_right _ _)
theorem eqAt_rel (I : Inv X pins σ H s) : ∀ (n : Nat) (a b : AV) (x y : V) (u w : Value) (r : Bool) (A : Around), min (dep a) (dep b) ≤ n → Rel X.K κ ι H a x → Rel X.K κ ι H b y → RelV x u → RelV y w → eqv a b = some r → A.units + n < cLine → SeqAt.EqAt A s u w r
  | n, .non, b, x, y, u, w, r, A, hn, h, g, ru, rw', e, hu => by
    cases h; cases ru
    cases b <;> first | (simp only [eqv] at e; cases e; done) | skip
    all_goals simp only [eqv, Option.some.injEq] at e; subst e
    · cases g; cases rw'; exact SeqAt.EqAt.same _
    · cases g; cases rw'; exact SeqAt.EqAt.none_bool _
    · cases g; obtain ⟨t, rfl⟩ := rw'; exact SeqAt.EqAt.none_int _ t
    · cases g; obtain ⟨t, rfl⟩ := rw'; exact SeqAt.EqAt.none_str _ t
    · cases g with
      | tup h2 r2 => cases rw'; obtain ⟨_, _, p, _⟩ := I.tuple h2; exact SeqAt.EqAt.none_tuple p (by omega)
    · cases g with
      | lst h2 r2 => cases rw'; obtain ⟨_, _, p, _⟩ := I.list h2.sq; exact SeqAt.EqAt.none_list p.isList (by omega)
  | n, .bl k, b, x, y, u, w, r, A, hn, h, g, ru, rw', e, hu => by
    cases h; cases ru
    cases b <;> first | (simp only [eqv] at e; cases e; done) | skip
    all_goals simp only [eqv, Option.some.injEq] at e; subst e
    · cases g; cases rw'; exact SeqAt.EqAt.bool_none _
    · cases g; cases rw'; exact SeqAt.EqAt.bool_bool _ _
    · cases g; obtain ⟨t, rfl⟩ := rw'; exact SeqAt.EqAt.bool_int _ _ t
    · cases g; obtain ⟨t, rfl⟩ := rw'; exact SeqAt.EqAt.bool_str _ _ t
    · cases g with
      | tup h2 r2 => cases rw'; obtain ⟨_, _, p, _⟩ := I.tuple h2; exact SeqAt.EqAt.bool_tuple _ p (by omega)
    · cases g with
      | lst h2 r2 => cases rw'; obtain ⟨_, _, p, _⟩ := I.list h2.sq; exact SeqAt.EqAt.bool_list _ p.isList (by omega)
  | n, .int k, b, x, y, u, w, r, A, hn, h, g, ru, rw', e, hu => by
    cases h; obtain ⟨t0, rfl⟩ := ru
    cases b <;> first | (simp only [eqv] at e; cases e; done) | skip
    all_goals simp only [eqv, Option.some.injEq] at e; subst e
    · cases g; cases rw'; exact SeqAt.EqAt.int_none _ t0
    · cases g; cases rw'; exact SeqAt.EqAt.int_bool _ t0 _
    · cases g; obtain ⟨t, rfl⟩ := rw'; exact SeqAt.EqAt.int_int _ t0 _ t
    · cases g; obtain ⟨t, rfl⟩ := rw'; exact SeqAt.EqAt.int_str _ t0 _ t
    · cases g with
      | tup h2 r2 => cases rw'; obtain ⟨_, _, p, _⟩ := I.tuple h2; exact SeqAt.EqAt.int_tuple _ t0 p (by omega)
    · cases g with
      | lst h2 r2 => cases rw'; obtain ⟨_, _, p, _⟩ := I.list h2.sq; exact SeqAt.EqAt.int_list _ t0 p.isList (by omega)
  | n, .str k, b, x, y, u, w, r, A, hn, h, g, ru, rw', e, hu => by
    cases h; obtain ⟨t0, rfl⟩ := ru
    cases b <;> first | (simp only [eqv] at e; cases e; done) | skip
    all_goals simp only [eqv, Option.some.injEq] at e; subst e
    · cases g; cases rw'; exact SeqAt.EqAt.str_none _ t0
    · cases g; cases rw'; exact SeqAt.EqAt.str_bool _ t0 _
    · cases g; obtain ⟨t, rfl⟩ := rw'; exact SeqAt.EqAt.str_int _ t0 _ t
    · cases g; obtain ⟨t, rfl⟩ := rw'; exact SeqAt.EqAt.str_str _ t0 _ t
    · cases g with
      | tup h2 r2 => cases rw'; obtain ⟨_, _, p, _⟩ := I.tuple h2; exact SeqAt.EqAt.str_tuple _ t0 p (by omega)
    · cases g with
      | lst h2 r2 => cases rw'; obtain ⟨_, _, p, _⟩ := I.list h2.sq; exact SeqAt.EqAt.str_list _ t0 p.isList (by omega)
  | n, .tup xs, b, x, y, u, w, r, A, hn, h, g, ru, rw', e, hu => by
    have e0 := e
    have h0 := h
    cases h with
    | tup h1 r1 =>
      rename_i a1 vs1
      obtain ⟨its, rv, p1, hz1⟩ := I.tuple h1
      cases ru
      cases b <;> first | (simp only [eqv] at e; cases e; done) | skip
      all_goals simp only [eqv] at e
      · cases e; cases g; cases rw'; exact SeqAt.EqAt.tuple_none p1 (by omega)
      · cases e; cases g; cases rw'; exact SeqAt.EqAt.tuple_bool _ p1 (by omega)
      · cases e; cases g; obtain ⟨t, rfl⟩ := rw'; exact SeqAt.EqAt.tuple_int _ t p1 (by omega)
      · cases e; cases g; obtain ⟨t, rfl⟩ := rw'; exact SeqAt.EqAt.tuple_str _ t p1 (by omega)
      · have g0 := g
        cases g with
        | tup h2 r2 =>
          rename_i ys a2 vs2
          obtain ⟨its2, rv2, p2, hz2⟩ := I.tuple h2
          cases rw'
          by_cases ea : a1 = a2
          · subst ea
            rw [rel_same I _ _ _ r h0 g0 e0]
            exact SeqAt.EqAt.same _
          · obtain ⟨f, hf, er⟩ := all_eqvL e
            have l1 : its.toArray.size = xs.length := by rw [List.size_toArray, ← rv.length, ← r1.length]
            have l2 : its2.toArray.size = ys.length := by rw [List.size_toArray, ← rv2.length, ← r2.length]
            rw [er, ← l1, ← l2]
            simp only [dep] at hn
            refine SeqAt.EqAt.of_refs ea (SeqAt.RcAt.tuples (e := f) p1 p2 (by omega) fun j k1 k2 => ?_)
            obtain ⟨xa, ex⟩ : ∃ xa, xs[j]? = some xa := ⟨_, List.getElem?_eq_getElem (by omega)⟩
            obtain ⟨ya, ey⟩ : ∃ ya, ys[j]? = some ya := ⟨_, List.getElem?_eq_getElem (by omega)⟩
            obtain ⟨v1, e1, q1⟩ := r1.get ex
            obtain ⟨v2, e2, q2⟩ := r2.get ey
            obtain ⟨u1, g1, s1⟩ := rv.get e1
            obtain ⟨u2, g2, s2⟩ := rv2.get e2
            have z1 : its.toArray[j] = u1 := by simpa [List.getElem?_eq_some_iff.mp g1] using (List.getElem?_eq_some_iff.mp g1).2
            have z2 : its2.toArray[j] = u2 := by simpa using (List.getElem?_eq_some_iff.mp g2).2
            rw [z1, z2]
            have d1 := depL_get ex
            have d2 := depL_get ey
            match n, hn, hu with
            | 0, hn, hu => omega
            | n + 1, hn, hu => exact eqAt_rel I n xa ya v1 v2 u1 u2 (f j) A.in1 (by omega) q1 q2 s1 s2 (hf j xa ya ex ey) (by show A.units + 1 + n < cLine; omega)
      · cases e
        cases g with
        | lst h2 r2 => cases rw'; obtain ⟨_, _, p, _⟩ := I.list h2.sq; exact SeqAt.EqAt.tuple_list p1 p.isList (by omega)
  | n, .lst xs, b, x, y, u, w, r, A, hn, h, g, ru, rw', e, hu => by
    have e0 := e
    have h0 := h
    cases h with
    | lst h1 r1 =>
      rename_i a1 vs1
      obtain ⟨its, rv, p1, hz1⟩ := I.list h1.sq
      cases ru
      cases b <;> first | (simp only [eqv] at e; cases e; done) | skip
      all_goals simp only [eqv] at e
      · cases e; cases g; cases rw'; exact SeqAt.EqAt.list_none p1.isList (by omega)
      · cases e; cases g; cases rw'; exact SeqAt.EqAt.list_bool _ p1.isList (by omega)
      · cases e; cases g; obtain ⟨t, rfl⟩ := rw'; exact SeqAt.EqAt.list_int _ t p1.isList (by omega)
      · cases e; cases g; obtain ⟨t, rfl⟩ := rw'; exact SeqAt.EqAt.list_str _ t p1.isList (by omega)
      · cases e
        cases g with
        | tup h2 r2 => cases rw'; obtain ⟨_, _, p, _⟩ := I.tuple h2; exact SeqAt.EqAt.list_tuple p1.isList p (by omega)
      · have g0 := g
        cases g with
        | lst h2 r2 =>
          rename_i ys a2 vs2
          obtain ⟨its2, rv2, p2, hz2⟩ := I.list h2.sq
          cases rw'
          by_cases ea : a1 = a2
          · subst ea
            rw [rel_same I _ _ _ r h0 g0 e0]
            exact SeqAt.EqAt.same _
          · have l1 : its.toArray.size = xs.length := by rw [List.size_toArray, ← rv.length, ← r1.length]
            have l2 : its2.toArray.size = ys.length := by rw [List.size_toArray, ← rv2.length, ← r2.length]
            simp only [dep] at hn
            by_cases el : xs.length = ys.length
            · rw [if_pos el] at e
              obtain ⟨f, hf, er⟩ := all_eqvL e
              have er' : r = (List.range its.toArray.size).all f := by rw [er, l1, el]; simp
              rw [er']
              refine SeqAt.EqAt.of_refs ea (SeqAt.RcAt.lists (e := f) p1.isList p2.isList (by omega) (by omega) fun j k1 k2 => ?_)
              obtain ⟨xa, ex⟩ : ∃ xa, xs[j]? = some xa := ⟨_, List.getElem?_eq_getElem (by omega)⟩
              obtain ⟨ya, ey⟩ : ∃ ya, ys[j]? = some ya := ⟨_, List.getElem?_eq_getElem (by omega)⟩
              obtain ⟨v1, e1, q1⟩ := r1.get ex
              obtain ⟨v2, e2, q2⟩ := r2.get ey
              obtain ⟨u1, g1, s1⟩ := rv.get e1
              obtain ⟨u2, g2, s2⟩ := rv2.get e2
              have z1 : its.toArray[j] = u1 := by simpa using (List.getElem?_eq_some_iff.mp g1).2
              have z2 : its2.toArray[j] = u2 := by simpa using (List.getElem?_eq_some_iff.mp g2).2
              rw [z1, z2]
              have d1 := depL_get ex
              have d2 := depL_get ey
              match n, hn, hu with
              | 0, hn, hu => omega
              | n + 1, hn, hu => exact eqAt_rel I n xa ya v1 v2 u1 u2 (f j) A.in1 (by omega) q1 q2 s1 s2 (hf j xa ya ex ey) (by show A.units + 1 + n < cLine; omega)
            · rw [if_neg el] at e
              cases e
              exact SeqAt.EqAt.of_refs ea (SeqAt.RcAt.lists_lengths p1.isList p2.isList (by simp only [bne_iff_ne]; omega) (by omega))
  | n, .dct _, b, x, y, u, w, r, A, hn, h, g, ru, rw', e, hu => by cases b <;> (simp only [eqv] at e; cases e)
  | n, .loc _, b, x, y, u, w, r, A, hn, h, g, ru, rw', e, hu => by cases b <;> (simp only [eqv] at e; cases e)
  | n, .obj _, b, x, y, u, w, r, A, hn, h, g, ru, rw', e, hu => by cases b <;> (simp only [eqv] at e; cases e)
  | n, .scr _, b, x, y, u, w, r, A, hn, h, g, ru, rw', e, hu => by cases b <;> (simp only [eqv] at e; cases e)
  | n, .ty _, b, x, y, u, w, r, A, hn, h, g, ru, rw', e, hu => by cases b <;> (simp only [eqv] at e; cases e)
end
end Lr


namespace Lr
open PySem PySem.Spec L2
open PyProof.Rows hiding St
section
variable {κ : Nat → Addr} {X : Cx} {pins : List (Addr × Obj)} {σ : St} {H : Hp} {s : Shared} {ι : List Addr}
theorem seqT (I : Inv X pins σ H s) (n : Nat) {xs ys : List AV} {a1 a2 : Addr} {vs1 vs2 : List V} {r : Bool} {A : Around} (h1 : SqT X.K H a1 vs1) (r1 : RelL X.K κ ι H xs vs1) (h2 : SqT X.K H a2 vs2) (r2 : RelL X.K κ ι H ys vs2) (e : eqvL xs ys = some r) (hn : min (depL xs) (depL ys) + 1 ≤ n) (hu : A.units + n < cLine) : SeqAt.RcAt A s (.ref a1) (.ref a2) r := by
  obtain ⟨its, rv, p1, _⟩ := I.tuple h1
  obtain ⟨its2, rv2, p2, _⟩ := I.tuple h2
  obtain ⟨f, hf, er⟩ := all_eqvL e
  have l1 : its.toArray.size = xs.length := by rw [List.size_toArray, ← rv.length, ← r1.length]
  have l2 : its2.toArray.size = ys.length := by rw [List.size_toArray, ← rv2.length, ← r2.length]
  rw [er, ← l1, ← l2]
  refine SeqAt.RcAt.tuples (e := f) p1 p2 (by omega) fun j k1 k2 => ?_
  obtain ⟨xa, ex⟩ : ∃ xa, xs[j]? = some xa := ⟨_, List.getElem?_eq_getElem (by omega)⟩
  obtain ⟨ya, ey⟩ : ∃ ya, ys[j]? = some ya := ⟨_, List.getElem?_eq_getElem (by omega)⟩
  obtain ⟨v1, e1, q1⟩ := r1.get ex
  obtain ⟨v2, e2, q2⟩ := r2.get ey
  obtain ⟨u1, g1, s1⟩ := rv.get e1
  obtain ⟨u2, g2, s2⟩ := rv2.get e2
  have z1 : its.toArray[j] = u1 := by simpa using (List.getElem?_eq_some_iff.mp g1).2
  have z2 : its2.toArray[j] = u2 := by simpa using (List.getElem?_eq_some_iff.mp g2).2
  rw [z1, z2]
  have d1 := depL_get ex
  have d2 := depL_get ey
  match n, hn, hu with
  | 0, hn, hu => omega
  | n + 1, hn, hu => exact eqAt_rel I n xa ya v1 v2 u1 u2 (f j) A.in1 (by omega) q1 q2 s1 s2 (hf j xa ya ex ey) (by show A.units + 1 + n < cLine; omega)
theorem seqL (I : Inv X pins σ H s) (n : Nat) {xs ys : List AV} {a1 a2 : Addr} {vs1 vs2 : List V} {r : Bool} {A : Around} (h1 : SqL X.K H a1 vs1) (r1 : RelL X.K κ ι H xs vs1) (h2 : SqL X.K H a2 vs2) (r2 : RelL X.K κ ι H ys vs2) (e : (if xs.length = ys.length then eqvL xs ys else some false) = some r) (hn : min (depL xs) (depL ys) + 1 ≤ n) (hu : A.units + n < cLine) : SeqAt.RcAt A s (.ref a1) (.ref a2) r := by
  obtain ⟨its, rv, p1, _⟩ := I.list h1
  obtain ⟨its2, rv2, p2, _⟩ := I.list h2
  have l1 : its.toArray.size = xs.length := by rw [List.size_toArray, ← rv.length, ← r1.length]
  have l2 : its2.toArray.size = ys.length := by rw [List.size_toArray, ← rv2.length, ← r2.length]
  by_cases el : xs.length = ys.length
  · rw [if_pos el] at e
    obtain ⟨f, hf, er⟩ := all_eqvL e
    have er' : r = (List.range its.toArray.size).all f := by rw [er, l1, el]; simp
    rw [er']
    refine SeqAt.RcAt.lists (e := f) p1.isList p2.isList (by omega) (by omega) fun j k1 k2 => ?_
    obtain ⟨xa, ex⟩ : ∃ xa, xs[j]? = some xa := ⟨_, List.getElem?_eq_getElem (by omega)⟩
    obtain ⟨ya, ey⟩ : ∃ ya, ys[j]? = some ya := ⟨_, List.getElem?_eq_getElem (by omega)⟩
    obtain ⟨v1, e1, q1⟩ := r1.get ex
    obtain ⟨v2, e2, q2⟩ := r2.get ey
    obtain ⟨u1, g1, s1⟩ := rv.get e1
    obtain ⟨u2, g2, s2⟩ := rv2.get e2
    have z1 : its.toArray[j] = u1 := by simpa using (List.getElem?_eq_some_iff.mp g1).2
    have z2 : its2.toArray[j] = u2 := by simpa using (List.getElem?_eq_some_iff.mp g2).2
    rw [z1, z2]
    have d1 := depL_get ex
    have d2 := depL_get ey
    match n, hn, hu with
    | 0, hn, hu => omega
    | n + 1, hn, hu => exact eqAt_rel I n xa ya v1 v2 u1 u2 (f j) A.in1 (by omega) q1 q2 s1 s2 (hf j xa ya ex ey) (by show A.units + 1 + n < cLine; omega)
  · rw [if_neg el] at e
    cases e
    exact SeqAt.RcAt.lists_lengths p1.isList p2.isList (by simp only [bne_iff_ne]; omega) (by omega)

theorem rc_rel (I : Inv X pins σ H s) (n : Nat) (a b : AV) (x y : V) (u w : Value) (r : Bool) (A : Around) (hn : min (dep a) (dep b) ≤ n) (h : Rel X.K κ ι H a x) (g : Rel X.K κ ι H b y) (ru : RelV x u) (rw' : RelV y w) (e : eqv a b = some r) (hu : A.units + n < cLine) : SeqAt.RcAt A s u w r := by
  cases h <;> cases g <;> first | (simp only [eqv] at e; cases e; done) | skip
  all_goals simp only [eqv, Option.some.injEq] at e
  · subst e; cases ru; cases rw'; exact SeqAt.RcAt.none_none
  · subst e; cases ru; cases rw'; exact SeqAt.RcAt.none_bool _
  · subst e; cases ru; obtain ⟨tr, rfl⟩ := rw'; exact SeqAt.RcAt.none_int _ _
  · subst e; cases ru; obtain ⟨tr, rfl⟩ := rw'; exact SeqAt.RcAt.none_str _ _
  · subst e; cases ru; cases rw'; rename_i h2 r2; obtain ⟨_, _, p, _⟩ := I.tuple h2; exact SeqAt.RcAt.none_tuple p (by omega)
  · subst e; cases ru; cases rw'; rename_i h2 r2; obtain ⟨_, _, p, _⟩ := I.list h2.sq; exact SeqAt.RcAt.none_list p.isList (by omega)
  · subst e; cases ru; cases rw'; exact SeqAt.RcAt.bool_none _
  · subst e; cases ru; cases rw'; exact SeqAt.RcAt.bool_bool _ _
  · subst e; cases ru; obtain ⟨tr, rfl⟩ := rw'; exact SeqAt.RcAt.bool_int _ _ _
  · subst e; cases ru; obtain ⟨tr, rfl⟩ := rw'; exact SeqAt.RcAt.bool_str _ _ _
  · subst e; cases ru; cases rw'; rename_i h2 r2; obtain ⟨_, _, p, _⟩ := I.tuple h2; exact SeqAt.RcAt.bool_tuple _ p (by omega)
  · subst e; cases ru; cases rw'; rename_i h2 r2; obtain ⟨_, _, p, _⟩ := I.list h2.sq; exact SeqAt.RcAt.bool_list _ p.isList (by omega)
  · subst e; obtain ⟨tr, rfl⟩ := ru; cases rw'; exact SeqAt.RcAt.int_none _ _
  · subst e; obtain ⟨tr, rfl⟩ := ru; cases rw'; exact SeqAt.RcAt.int_bool _ _ _
  · subst e; obtain ⟨tr, rfl⟩ := ru; obtain ⟨tr, rfl⟩ := rw'; exact SeqAt.RcAt.int_int _ _ _ _
  · subst e; obtain ⟨tr, rfl⟩ := ru; obtain ⟨tr, rfl⟩ := rw'; exact SeqAt.RcAt.int_str _ _ _ _
  · subst e; obtain ⟨tr, rfl⟩ := ru; cases rw'; rename_i h2 r2; obtain ⟨_, _, p, _⟩ := I.tuple h2; exact SeqAt.RcAt.int_tuple _ _ p (by omega)
  · subst e; obtain ⟨tr, rfl⟩ := ru; cases rw'; rename_i h2 r2; obtain ⟨_, _, p, _⟩ := I.list h2.sq; exact SeqAt.RcAt.int_list _ _ p.isList (by omega)
  · subst e; obtain ⟨tr, rfl⟩ := ru; cases rw'; exact SeqAt.RcAt.str_none _ _
  · subst e; obtain ⟨tr, rfl⟩ := ru; cases rw'; exact SeqAt.RcAt.str_bool _ _ _
  · subst e; obtain ⟨tr, rfl⟩ := ru; obtain ⟨tr, rfl⟩ := rw'; exact SeqAt.RcAt.str_int _ _ _ _
  · subst e; obtain ⟨tr, rfl⟩ := ru; obtain ⟨tr, rfl⟩ := rw'; exact SeqAt.RcAt.str_str _ _ _ _
  · subst e; obtain ⟨tr, rfl⟩ := ru; cases rw'; rename_i h2 r2; obtain ⟨_, _, p, _⟩ := I.tuple h2; exact SeqAt.RcAt.str_tuple _ _ p (by omega)
  · subst e; obtain ⟨tr, rfl⟩ := ru; cases rw'; rename_i h2 r2; obtain ⟨_, _, p, _⟩ := I.list h2.sq; exact SeqAt.RcAt.str_list _ _ p.isList (by omega)
  · subst e; cases rw'; cases ru; rename_i h2 r2; obtain ⟨_, _, p, _⟩ := I.tuple h2; exact SeqAt.RcAt.tuple_none p (by omega)
  · subst e; cases rw'; cases ru; rename_i h2 r2 _; obtain ⟨_, _, p, _⟩ := I.tuple h2; exact SeqAt.RcAt.tuple_bool _ p (by omega)
  · subst e; obtain ⟨tr, rfl⟩ := rw'; cases ru; rename_i h2 r2 _; obtain ⟨_, _, p, _⟩ := I.tuple h2; exact SeqAt.RcAt.tuple_int _ _ p (by omega)
  · subst e; obtain ⟨tr, rfl⟩ := rw'; cases ru; rename_i h2 r2 _; obtain ⟨_, _, p, _⟩ := I.tuple h2; exact SeqAt.RcAt.tuple_str _ _ p (by omega)
  · cases ru; cases rw'; rename_i h1 r1 _ _ _ h2 r2; exact seqT I n h1 r1 h2 r2 e (by simp only [dep] at hn; omega) hu
  · subst e; cases ru; cases rw'; rename_i h1 r1 _ _ _ h2 r2; obtain ⟨_, _, p1, _⟩ := I.tuple h1; obtain ⟨_, _, p, _⟩ := I.list h2.sq; exact SeqAt.RcAt.tuple_list p1 p.isList (by omega)
  · subst e; cases rw'; cases ru; rename_i h2 r2; obtain ⟨_, _, p, _⟩ := I.list h2.sq; exact SeqAt.RcAt.list_none p.isList (by omega)
  · subst e; cases rw'; cases ru; rename_i h2 r2 _; obtain ⟨_, _, p, _⟩ := I.list h2.sq; exact SeqAt.RcAt.list_bool _ p.isList (by omega)
  · subst e; obtain ⟨tr, rfl⟩ := rw'; cases ru; rename_i h2 r2 _; obtain ⟨_, _, p, _⟩ := I.list h2.sq; exact SeqAt.RcAt.list_int _ _ p.isList (by omega)
  · subst e; obtain ⟨tr, rfl⟩ := rw'; cases ru; rename_i h2 r2 _; obtain ⟨_, _, p, _⟩ := I.list h2.sq; exact SeqAt.RcAt.list_str _ _ p.isList (by omega)
  · subst e; cases ru; cases rw'; rename_i h1 r1 _ _ _ h2 r2; obtain ⟨_, _, p1, _⟩ := I.list h1.sq; obtain ⟨_, _, p, _⟩ := I.tuple h2; exact SeqAt.RcAt.list_tuple p1.isList p (by omega)
  · cases ru; cases rw'; rename_i h1 r1 _ _ _ h2 r2; exact seqL I n h1.sq r1 h2.sq r2 e (by simp only [dep] at hn; omega) hu
theorem seqNeT (I : Inv X pins σ H s) (n : Nat) {xs ys : List AV} {a1 a2 : Addr} {vs1 vs2 : List V} {r : Bool} {A : Around} (h1 : SqT X.K H a1 vs1) (r1 : RelL X.K κ ι H xs vs1) (h2 : SqT X.K H a2 vs2) (r2 : RelL X.K κ ι H ys vs2) (e : eqvL xs ys = some r) (hn : min (depL xs) (depL ys) + 1 ≤ n) (hu : A.units + n < cLine) : SeqAt.RcNeAt A s (.ref a1) (.ref a2) (!r) := by
  obtain ⟨its, rv, p1, _⟩ := I.tuple h1
  obtain ⟨its2, rv2, p2, _⟩ := I.tuple h2
  obtain ⟨f, hf, er⟩ := all_eqvL e
  have l1 : its.toArray.size = xs.length := by rw [List.size_toArray, ← rv.length, ← r1.length]
  have l2 : its2.toArray.size = ys.length := by rw [List.size_toArray, ← rv2.length, ← r2.length]
  rw [er, ← l1, ← l2]
  refine SeqAt.RcNeAt.tuples (e := f) p1 p2 (by omega) fun j k1 k2 => ?_
  obtain ⟨xa, ex⟩ : ∃ xa, xs[j]? = some xa := ⟨_, List.getElem?_eq_getElem (by omega)⟩
  obtain ⟨ya, ey⟩ : ∃ ya, ys[j]? = some ya := ⟨_, List.getElem?_eq_getElem (by omega)⟩
  obtain ⟨v1, e1, q1⟩ := r1.get ex
  obtain ⟨v2, e2, q2⟩ := r2.get ey
  obtain ⟨u1, g1, s1⟩ := rv.get e1
  obtain ⟨u2, g2, s2⟩ := rv2.get e2
  have z1 : its.toArray[j] = u1 := by simpa using (List.getElem?_eq_some_iff.mp g1).2
  have z2 : its2.toArray[j] = u2 := by simpa using (List.getElem?_eq_some_iff.mp g2).2
  rw [z1, z2]
  have d1 := depL_get ex
  have d2 := depL_get ey
  match n, hn, hu with
  | 0, hn, hu => omega
  | n + 1, hn, hu => exact eqAt_rel I n xa ya v1 v2 u1 u2 (f j) A.in1 (by omega) q1 q2 s1 s2 (hf j xa ya ex ey) (by show A.units + 1 + n < cLine; omega)
theorem seqNeL (I : Inv X pins σ H s) (n : Nat) {xs ys : List AV} {a1 a2 : Addr} {vs1 vs2 : List V} {r : Bool} {A : Around} (h1 : SqL X.K H a1 vs1) (r1 : RelL X.K κ ι H xs vs1) (h2 : SqL X.K H a2 vs2) (r2 : RelL X.K κ ι H ys vs2) (e : (if xs.length = ys.length then eqvL xs ys else some false) = some r) (hn : min (depL xs) (depL ys) + 1 ≤ n) (hu : A.units + n < cLine) : SeqAt.RcNeAt A s (.ref a1) (.ref a2) (!r) := by
  obtain ⟨its, rv, p1, _⟩ := I.list h1
  obtain ⟨its2, rv2, p2, _⟩ := I.list h2
  have l1 : its.toArray.size = xs.length := by rw [List.size_toArray, ← rv.length, ← r1.length]
  have l2 : its2.toArray.size = ys.length := by rw [List.size_toArray, ← rv2.length, ← r2.length]
  by_cases el : xs.length = ys.length
  · rw [if_pos el] at e
    obtain ⟨f, hf, er⟩ := all_eqvL e
    have er' : r = (List.range its.toArray.size).all f := by rw [er, l1, el]; simp
    rw [er']
    refine SeqAt.RcNeAt.lists (e := f) p1.isList p2.isList (by omega) (by omega) fun j k1 k2 => ?_
    obtain ⟨xa, ex⟩ : ∃ xa, xs[j]? = some xa := ⟨_, List.getElem?_eq_getElem (by omega)⟩
    obtain ⟨ya, ey⟩ : ∃ ya, ys[j]? = some ya := ⟨_, List.getElem?_eq_getElem (by omega)⟩
    obtain ⟨v1, e1, q1⟩ := r1.get ex
    obtain ⟨v2, e2, q2⟩ := r2.get ey
    obtain ⟨u1, g1, s1⟩ := rv.get e1
    obtain ⟨u2, g2, s2⟩ := rv2.get e2
    have z1 : its.toArray[j] = u1 := by simpa using (List.getElem?_eq_some_iff.mp g1).2
    have z2 : its2.toArray[j] = u2 := by simpa using (List.getElem?_eq_some_iff.mp g2).2
    rw [z1, z2]
    have d1 := depL_get ex
    have d2 := depL_get ey
    match n, hn, hu with
    | 0, hn, hu => omega
    | n + 1, hn, hu => exact eqAt_rel I n xa ya v1 v2 u1 u2 (f j) A.in1 (by omega) q1 q2 s1 s2 (hf j xa ya ex ey) (by show A.units + 1 + n < cLine; omega)
  · rw [if_neg el] at e
    cases e
    exact SeqAt.RcNeAt.lists_lengths p1.isList p2.isList (by simp only [bne_iff_ne]; omega) (by omega)

theorem rcNe_rel (I : Inv X pins σ H s) (n : Nat) (a b : AV) (x y : V) (u w : Value) (r : Bool) (A : Around) (hn : min (dep a) (dep b) ≤ n) (h : Rel X.K κ ι H a x) (g : Rel X.K κ ι H b y) (ru : RelV x u) (rw' : RelV y w) (e : eqv a b = some r) (hu : A.units + n < cLine) : SeqAt.RcNeAt A s u w (!r) := by
  cases h <;> cases g <;> first | (simp only [eqv] at e; cases e; done) | skip
  all_goals simp only [eqv, Option.some.injEq] at e
  · subst e; cases ru; cases rw'; exact SeqAt.RcNeAt.none_none
  · subst e; cases ru; cases rw'; exact SeqAt.RcNeAt.none_bool _
  · subst e; cases ru; obtain ⟨tr, rfl⟩ := rw'; exact SeqAt.RcNeAt.none_int _ _
  · subst e; cases ru; obtain ⟨tr, rfl⟩ := rw'; exact SeqAt.RcNeAt.none_str _ _
  · subst e; cases ru; cases rw'; rename_i h2 r2; obtain ⟨_, _, p, _⟩ := I.tuple h2; exact SeqAt.RcNeAt.none_tuple p (by omega)
  · subst e; cases ru; cases rw'; rename_i h2 r2; obtain ⟨_, _, p, _⟩ := I.list h2.sq; exact SeqAt.RcNeAt.none_list p.isList (by omega)
  · subst e; cases ru; cases rw'; exact SeqAt.RcNeAt.bool_none _
  · subst e; cases ru; cases rw'; exact SeqAt.RcNeAt.bool_bool _ _
  · subst e; cases ru; obtain ⟨tr, rfl⟩ := rw'; exact SeqAt.RcNeAt.bool_int _ _ _
  · subst e; cases ru; obtain ⟨tr, rfl⟩ := rw'; exact SeqAt.RcNeAt.bool_str _ _ _
  · subst e; cases ru; cases rw'; rename_i h2 r2; obtain ⟨_, _, p, _⟩ := I.tuple h2; exact SeqAt.RcNeAt.bool_tuple _ p (by omega)
  · subst e; cases ru; cases rw'; rename_i h2 r2; obtain ⟨_, _, p, _⟩ := I.list h2.sq; exact SeqAt.RcNeAt.bool_list _ p.isList (by omega)
  · subst e; obtain ⟨tr, rfl⟩ := ru; cases rw'; exact SeqAt.RcNeAt.int_none _ _
  · subst e; obtain ⟨tr, rfl⟩ := ru; cases rw'; exact SeqAt.RcNeAt.int_bool _ _ _
  · subst e; obtain ⟨tr, rfl⟩ := ru; obtain ⟨tr, rfl⟩ := rw'; exact SeqAt.RcNeAt.int_int _ _ _ _
  · subst e; obtain ⟨tr, rfl⟩ := ru; obtain ⟨tr, rfl⟩ := rw'; exact SeqAt.RcNeAt.int_str _ _ _ _
  · subst e; obtain ⟨tr, rfl⟩ := ru; cases rw'; rename_i h2 r2; obtain ⟨_, _, p, _⟩ := I.tuple h2; exact SeqAt.RcNeAt.int_tuple _ _ p (by omega)
  · subst e; obtain ⟨tr, rfl⟩ := ru; cases rw'; rename_i h2 r2; obtain ⟨_, _, p, _⟩ := I.list h2.sq; exact SeqAt.RcNeAt.int_list _ _ p.isList (by omega)
  · subst e; obtain ⟨tr, rfl⟩ := ru; cases rw'; exact SeqAt.RcNeAt.str_none _ _
  · subst e; obtain ⟨tr, rfl⟩ := ru; cases rw'; exact SeqAt.RcNeAt.str_bool _ _ _
  · subst e; obtain ⟨tr, rfl⟩ := ru; obtain ⟨tr, rfl⟩ := rw'; exact SeqAt.RcNeAt.str_int _ _ _ _
  · subst e; obtain ⟨tr, rfl⟩ := ru; obtain ⟨tr, rfl⟩ := rw'; exact SeqAt.RcNeAt.str_str _ _ _ _
  · subst e; obtain ⟨tr, rfl⟩ := ru; cases rw'; rename_i h2 r2; obtain ⟨_, _, p, _⟩ := I.tuple h2; exact SeqAt.RcNeAt.str_tuple _ _ p (by omega)
  · subst e; obtain ⟨tr, rfl⟩ := ru; cases rw'; rename_i h2 r2; obtain ⟨_, _, p, _⟩ := I.list h2.sq; exact SeqAt.RcNeAt.str_list _ _ p.isList (by omega)
  · subst e; cases rw'; cases ru; rename_i h2 r2; obtain ⟨_, _, p, _⟩ := I.tuple h2; exact SeqAt.RcNeAt.tuple_none p (by omega)
  · subst e; cases rw'; cases ru; rename_i h2 r2 _; obtain ⟨_, _, p, _⟩ := I.tuple h2; exact SeqAt.RcNeAt.tuple_bool _ p (by omega)
  · subst e; obtain ⟨tr, rfl⟩ := rw'; cases ru; rename_i h2 r2 _; obtain ⟨_, _, p, _⟩ := I.tuple h2; exact SeqAt.RcNeAt.tuple_int _ _ p (by omega)
  · subst e; obtain ⟨tr, rfl⟩ := rw'; cases ru; rename_i h2 r2 _; obtain ⟨_, _, p, _⟩ := I.tuple h2; exact SeqAt.RcNeAt.tuple_str _ _ p (by omega)
  · cases ru; cases rw'; rename_i h1 r1 _ _ _ h2 r2; exact seqNeT I n h1 r1 h2 r2 e (by simp only [dep] at hn; omega) hu
  · subst e; cases ru; cases rw'; rename_i h1 r1 _ _ _ h2 r2; obtain ⟨_, _, p1, _⟩ := I.tuple h1; obtain ⟨_, _, p, _⟩ := I.list h2.sq; exact SeqAt.RcNeAt.tuple_list p1 p.isList (by omega)
  · subst e; cases rw'; cases ru; rename_i h2 r2; obtain ⟨_, _, p, _⟩ := I.list h2.sq; exact SeqAt.RcNeAt.list_none p.isList (by omega)
  · subst e; cases rw'; cases ru; rename_i h2 r2 _; obtain ⟨_, _, p, _⟩ := I.list h2.sq; exact SeqAt.RcNeAt.list_bool _ p.isList (by omega)
  · subst e; obtain ⟨tr, rfl⟩ := rw'; cases ru; rename_i h2 r2 _; obtain ⟨_, _, p, _⟩ := I.list h2.sq; exact SeqAt.RcNeAt.list_int _ _ p.isList (by omega)
  · subst e; obtain ⟨tr, rfl⟩ := rw'; cases ru; rename_i h2 r2 _; obtain ⟨_, _, p, _⟩ := I.list h2.sq; exact SeqAt.RcNeAt.list_str _ _ p.isList (by omega)
  · subst e; cases ru; cases rw'; rename_i h1 r1 _ _ _ h2 r2; obtain ⟨_, _, p1, _⟩ := I.list h1.sq; obtain ⟨_, _, p, _⟩ := I.tuple h2; exact SeqAt.RcNeAt.list_tuple p1.isList p (by omega)
  · cases ru; cases rw'; rename_i h1 r1 _ _ _ h2 r2; exact seqNeL I n h1.sq r1 h2.sq r2 e (by simp only [dep] at hn; omega) hu
end
end Lr


namespace Lr
open PySem PySem.Spec L2
open PyProof.Rows hiding St


def lsOf (μ : Store) : AV → Option (List AV)
  | .lst xs => some xs
  | .loc n => match μ[n]? with
    | some (.lst xs) => some xs
    | _ => none
  | _ => none
@[simp] theorem lsOf_lst (μ : Store) (xs : List AV) : lsOf μ (.lst xs) = some xs := rfl
section
variable {κ : Nat → Addr} {X : Cx} {K : PySem.W.Frag} {ι : List Addr} {H : Hp} {μ : Store}
theorem ls_rel (sr : SR K κ ι μ H) {a : AV} {x : V} {xs : List AV} (r : Rel K κ ι H a x) (e : lsOf μ a = some xs) : ∃ p vs, x = .ref p ∧ SqL K H p vs ∧ RelL K κ ι H xs vs := by
  cases r with
  | lst h r => cases e; exact ⟨_, _, rfl, h.sq, r⟩
  | loc h =>
    rename_i n p
    simp only [lsOf] at e
    cases q : μ[n]? with
    | none => rw [q] at e; cases e
    | some o =>
      rw [q] at e
      cases o <;> first | (cases e; done) | skip
      cases e
      obtain ⟨vs, e1, r1⟩ := sr.obj n _ p q h
      exact ⟨p, vs, rfl, .inl (.inl e1), r1⟩
  | _ => cases e
end
def eqB (x y : AV) (μ : Store) : Option Bool := match lsOf μ x, lsOf μ y with
  | some xs, some ys => if xs.length = ys.length then eqvL xs ys else some false
  | _, _ => eqv x y
def depM (μ : Store) (x : AV) : Nat := match lsOf μ x with
  | some xs => depL xs + 1
  | none => dep x
def gEq : G2 := fun x y μ => match eqB x y μ with
  | some r => if min (depM μ x) (depM μ y) ≤ 150 then .ok (.bl r) μ else .bad
  | none => .bad
def gNe : G2 := fun x y μ => match eqB x y μ with
  | some r => if min (depM μ x) (depM μ y) ≤ 150 then .ok (.bl (!r)) μ else .bad
  | none => .bad
section
variable {κ : Nat → Addr} {X : Cx} {a b c e : Expr} {ra rb rc r : AE} {pos : Pos} {g : G2} {k : Nat}
theorem lsOf_dep {μ : Store} {x : AV} (h : ∀ n, x ≠ .loc n) : depM μ x = dep x := by
  unfold depM
  cases x <;> first | rfl | (exact absurd rfl (h _))
theorem room_eq (c : Cl X k) : X.A.units + 150 < cLine := by have := c.room.un; omega
theorem eqv_loc {a b : AV} {r : Bool} (e : eqv a b = some r) : (∀ n, a ≠ .loc n) ∧ (∀ n, b ≠ .loc n) := by
  constructor
  · rintro n rfl
    cases b <;> (simp only [eqv] at e; cases e)
  · rintro n rfl
    cases a <;> (simp only [eqv] at e; cases e)
theorem op_gEq (c : Cl X k) : OpA κ X (compareOp .Eq) gEq := fun W tk pins s σ H x y v u Q I rx ry hh => by
  obtain ⟨σ0, ι, μ, a, b, sr, ra, rb, h⟩ := hh
  unfold gEq at h
  split at h
  · rename_i r er
    by_cases hd : min (depM μ a) (depM μ b) ≤ 150
    · rw [if_pos hd] at h
      have fin : EP X pins σ Q (.bool r) s := ⟨.bl r, H, I, rfl, ok1 sr h (.bl _)⟩
      have hu := room_eq c
      unfold eqB at er
      split at er
      · rename_i xs ys e1 e2
        obtain ⟨p, vs, rfl, h1, r1⟩ := ls_rel sr ra e1
        obtain ⟨q, ws, rfl, h2, r2⟩ := ls_rel sr rb e2
        cases rx
        cases ry
        unfold depM at hd
        rw [e1, e2] at hd
        exact seqL I 150 h1 r1 h2 r2 er (by simp only at hd; omega) hu X.prog X.w X.xe _ fin
      · obtain ⟨n1, n2⟩ := eqv_loc er
        rw [lsOf_dep n1, lsOf_dep n2] at hd
        exact rc_rel I 150 a b x y v u r X.A hd ra rb rx ry er hu X.prog X.w X.xe _ fin
    · rw [if_neg hd] at h
      exact False.elim h
  · exact False.elim h
theorem op_gNe (c : Cl X k) : OpA κ X (compareOp .NotEq) gNe := fun W tk pins s σ H x y v u Q I rx ry hh => by
  obtain ⟨σ0, ι, μ, a, b, sr, ra, rb, h⟩ := hh
  unfold gNe at h
  split at h
  · rename_i r er
    by_cases hd : min (depM μ a) (depM μ b) ≤ 150
    · rw [if_pos hd] at h
      have fin : EP X pins σ Q (.bool (!r)) s := ⟨.bl (!r), H, I, rfl, ok1 sr h (.bl _)⟩
      have hu := room_eq c
      unfold eqB at er
      split at er
      · rename_i xs ys e1 e2
        obtain ⟨p, vs, rfl, h1, r1⟩ := ls_rel sr ra e1
        obtain ⟨q, ws, rfl, h2, r2⟩ := ls_rel sr rb e2
        cases rx
        cases ry
        unfold depM at hd
        rw [e1, e2] at hd
        exact seqNeL I 150 h1 r1 h2 r2 er (by simp only at hd; omega) hu X.prog X.w X.xe _ fin
      · obtain ⟨n1, n2⟩ := eqv_loc er
        rw [lsOf_dep n1, lsOf_dep n2] at hd
        exact rcNe_rel I 150 a b x y v u r X.A hd ra rb rx ry er hu X.prog X.w X.xe _ fin
    · rw [if_neg hd] at h
      exact False.elim h
  · exact False.elim h
end


mutual
def isD : AV → Bool
  | .non => true | .bl _ => true | .int _ => true | .str _ => true
  | .tup xs => isDL xs
  | .lst xs => isDL xs
  | .dct kvs => isDD kvs
  | .loc _ => false | .obj _ => false | .scr _ => false | .ty _ => false
def isDL : List AV → Bool
  | [] => true
  | x :: xs => isD x && isDL xs
def isDD : List (AV × AV) → Bool
  | [] => true
  | (x, y) :: xs => isD x && isD y && isDD xs
end
section
variable {κ : Nat → Addr} {X : Cx} {pins : List (Addr × Obj)} {σ : St} {H : Hp} {s : Shared} {ι : List Addr}
theorem dct_seq (I : Inv X pins σ H s) {a : Addr} {o : Obj} {es : Array DictEntry} {ep : Nat} (h : H a = some (.frz o (.ext fun h => h.get? a = some o))) (ho : o.ExactDict) (hd : o.data = .dict es ep) {its : Array Value} {n : Nat} {o' : Obj} (g : s.heap.get? a = some o') (hd' : o'.data = .seq its n) : False := by
  obtain ⟨e, _⟩ := I.hok a _ h
  rw [e] at g
  cases g
  rw [hd] at hd'
  cases hd'
mutual
theorem rel_fun (I : Inv X pins σ H s) : ∀ (a b : AV) (x : V), isD a = true → isD b = true → Rel X.K κ ι H a x → Rel X.K κ ι H b x → a = b
  | .non, b, x, _, hb, h, g => by cases h; cases g; rfl
  | .bl _, b, x, _, hb, h, g => by cases h; cases g; rfl
  | .int _, b, x, _, hb, h, g => by cases h; cases g; rfl
  | .str _, b, x, _, hb, h, g => by cases h; cases g; rfl
  | .tup xs, b, x, ha, hb, h, g => by
    cases h with
    | tup h1 r1 =>
      obtain ⟨its1, _, ⟨o1, g1, c1, n1, d1⟩, _⟩ := I.tuple h1
      cases g with
      | tup h2 r2 =>
        have ev := I.tuple_inj h1 h2
        subst ev
        rw [rel_funL I xs _ _ (by simpa [isD] using ha) (by simpa [isD] using hb) r1 r2]
      | lst h2 r2 =>
        obtain ⟨_, _, ⟨o2, n2, g2, c2, _⟩, _⟩ := I.list h2.sq
        rw [g1] at g2; cases g2; rw [c1] at c2
        injection c2 with q
        exact absurd q (by decide)
      | dct h2 ho hd hn r2 => exact (dct_seq I h2 ho hd g1 d1).elim
      | loc _ => cases hb
      | obj _ => cases hb
      | scr _ => cases hb
  | .lst xs, b, x, ha, hb, h, g => by
    cases h with
    | lst h1 r1 =>
      obtain ⟨its1, _, ⟨o1, n1, g1, c1, _, d1⟩, _⟩ := I.list h1.sq
      cases g with
      | tup h2 r2 =>
        obtain ⟨_, _, ⟨o2, g2, c2, _⟩, _⟩ := I.tuple h2
        rw [g1] at g2; cases g2; rw [c1] at c2
        injection c2 with q
        exact absurd q (by decide)
      | lst h2 r2 =>
        have ev := I.list_inj h1.sq h2.sq
        subst ev
        rw [rel_funL I xs _ _ (by simpa [isD] using ha) (by simpa [isD] using hb) r1 r2]
      | dct h2 ho hd hn r2 => exact (dct_seq I h2 ho hd g1 d1).elim
      | loc _ => cases hb
      | obj _ => cases hb
      | scr _ => cases hb
  | .dct xs, b, x, ha, hb, h, g => by
    cases h with
    | dct h1 ho hd hn r1 =>
      cases g with
      | tup h2 r2 => obtain ⟨its1, _, ⟨o1, g1, c1, n1, d1⟩, _⟩ := I.tuple h2; exact (dct_seq I h1 ho hd g1 d1).elim
      | lst h2 r2 => obtain ⟨its1, _, ⟨o1, n1, g1, c1, _, d1⟩, _⟩ := I.list h2.sq; exact (dct_seq I h1 ho hd g1 d1).elim
      | dct h2 ho2 hd2 hn2 r2 =>
        rw [h1] at h2
        injection h2 with h2
        injection h2 with h2
        subst h2
        rw [hd] at hd2
        injection hd2 with e1 e2
        subst e1
        rw [rel_funD I xs _ _ (by simpa [isD] using ha) (by simpa [isD] using hb) r1 r2]
      | loc _ => cases hb
      | obj _ => cases hb
      | scr _ => cases hb
  | .loc _, _, _, ha, _, _, _ => by cases ha
  | .obj _, _, _, ha, _, _, _ => by cases ha
  | .scr _, _, _, ha, _, _, _ => by cases ha
  | .ty _, _, _, ha, _, _, _ => by cases ha
theorem rel_funL (I : Inv X pins σ H s) : ∀ (as bs : List AV) (xs : List V), isDL as = true → isDL bs = true → RelL X.K κ ι H as xs → RelL X.K κ ι H bs xs → as = bs
  | [], bs, xs, _, _, h, g => by cases h; cases g; rfl
  | a :: as, bs, xs, ha, hb, h, g => by
    cases h with
    | cons h1 h2 =>
      cases g with
      | cons g1 g2 =>
        simp only [isDL, Bool.and_eq_true] at ha hb
        rw [rel_fun I a _ _ ha.1 hb.1 h1 g1, rel_funL I as _ _ ha.2 hb.2 h2 g2]
theorem rel_funD (I : Inv X pins σ H s) : ∀ (as bs : List (AV × AV)) (xs : List DictEntry), isDD as = true → isDD bs = true → RelD X.K κ ι H as xs → RelD X.K κ ι H bs xs → as = bs
  | [], bs, xs, _, _, h, g => by cases h; cases g; rfl
  | (a, a') :: as, bs, xs, ha, hb, h, g => by
    cases h with
    | cons h1 v1 h2 v2 h3 =>
      cases g with
      | cons g1 w1 g2 w2 g3 =>
        simp only [isDD, Bool.and_eq_true] at ha hb
        have e1 := v1.inj w1
        have e2 := v2.inj w2
        subst e1 e2
        rw [rel_fun I a _ _ ha.1.1 hb.1.1 h1 g1, rel_fun I a' _ _ ha.1.2 hb.1.2 h2 g2, rel_funD I as _ _ ha.2 hb.2 h3 g3]
end
end



def anyEq (x : AV) : List AV → Option Bool
  | [] => some false
  | y :: ys => match eqv y x, anyEq x ys with
    | some a, some b => some (a || b)
    | _, _ => none
def seqOf (μ : Store) : AV → Option (List AV)
  | .tup xs => some xs
  | v => lsOf μ v
def inB (x y : AV) (μ : Store) : Option Bool := match x, y with
  | .str a, .str b => if a.length = 1 then some (decide (a.cps.getD 0 0 ∈ b.cps.toList)) else none
  | x, y => match seqOf μ y with
    | some ys => if isD x && isDL ys && decide (dep x ≤ 140) then anyEq x ys else none
    | none => none
def gIn : G2 := fun x y μ => match inB x y μ with
  | some r => .ok (.bl r) μ
  | none => .bad
def gNotIn : G2 := fun x y μ => match inB x y μ with
  | some r => .ok (.bl (!r)) μ
  | none => .bad
end Lr


namespace Lr
open PySem PySem.Spec L2
open PyProof.Rows hiding St

theorem anyEq_some : ∀ {x : AV} {ys : List AV} {r : Bool}, anyEq x ys = some r → (∀ y ∈ ys, ∃ b, eqv y x = some b) ∧ (r = true ↔ ∃ y ∈ ys, eqv y x = some true)
  | x, [], r, e => by simp [anyEq] at e; subst e; simp
  | x, y :: ys, r, e => by
    unfold anyEq at e
    cases q1 : eqv y x with
    | none => rw [q1] at e; cases e
    | some a =>
      cases q2 : anyEq x ys with
      | none => rw [q1, q2] at e; cases e
      | some b =>
        rw [q1, q2] at e
        cases e
        obtain ⟨h1, h2⟩ := anyEq_some q2
        refine ⟨fun z hz => ?_, ?_⟩
        · rcases List.mem_cons.mp hz with rfl | hz
          · exact ⟨a, q1⟩
          · exact h1 z hz
        · cases a with
          | true => simp [q1]
          | false => simp [q1, h2]
section
variable {κ : Nat → Addr} {X : Cx} {a b c e : Expr} {ra rb rc r : AE} {pos : Pos} {g g' : G2} {k : Nat}
variable {pins : List (Addr × Obj)} {σ : St} {H : Hp} {s : Shared} {ι : List Addr}
open Classical in
theorem in_items (I : Inv X pins σ H s) {x : AV} {xv : V} {u : Value} {ys : List AV} {vs : List V} {its : List Value} {r : Bool} {A : Around} (hx : isD x = true) (hy : isDL ys = true) (hd : dep x ≤ 140) (rx : Rel X.K κ ι H x xv) (ru : RelV xv u)
    (rl : RelL X.K κ ι H ys vs) (rv : Vals vs its) (h : anyEq x ys = some r) (hu : A.units + 140 < cLine) : ∃ e : Value → Bool, (∀ y, y ∈ its.toArray → SeqAt.EqAt A s y u (e y)) ∧ its.toArray.any e = r := by
  obtain ⟨h1, h2⟩ := anyEq_some h
  have dm : ∀ {y : AV}, y ∈ ys → isD y = true := by
    intro y hm
    clear h1 h2 h rl
    induction ys with
    | nil => cases hm
    | cons z zs ih =>
      simp only [isDL, Bool.and_eq_true] at hy
      rcases List.mem_cons.mp hm with rfl | hm
      · exact hy.1
      · exact ih hy.2 hm
  refine ⟨fun w => decide (∃ y v, y ∈ ys ∧ Rel X.K κ ι H y v ∧ RelV v w ∧ eqv y x = some true), fun w hw => ?_, ?_⟩
  · have hw : w ∈ its := by simpa using hw
    obtain ⟨j, hj⟩ := List.mem_iff_getElem?.mp hw
    obtain ⟨v, ev⟩ : ∃ v, vs[j]? = some v := by
      have : j < vs.length := by rw [rv.length]; exact (List.getElem?_eq_some_iff.mp hj).1
      exact ⟨_, List.getElem?_eq_getElem this⟩
    obtain ⟨w', ew, rw'⟩ := rv.get ev
    rw [hj] at ew; cases ew
    obtain ⟨y, ey, ry⟩ := rl.get' ev
    have hm := List.mem_of_getElem? ey
    obtain ⟨b, eb⟩ := h1 y hm
    have key : decide (∃ y v, y ∈ ys ∧ Rel X.K κ ι H y v ∧ RelV v w ∧ eqv y x = some true) = b := by
      cases b with
      | true => exact decide_eq_true ⟨y, v, hm, ry, rw', eb⟩
      | false =>
        refine decide_eq_false ?_
        rintro ⟨y', v', hm', ry', rv', eb'⟩
        have := rv'.inj rw'
        subst this
        have := rel_fun I y' y _ (dm hm') (dm hm) ry' ry
        subst this
        rw [eb] at eb'
        cases eb'
    show SeqAt.EqAt A s w u (decide _)
    rw [key]
    exact eqAt_rel I 140 y x v xv w u b A (Nat.le_trans (Nat.min_le_right _ _) hd) ry rx rw' ru eb hu
  · have e1 : (its.toArray.any fun w => decide (∃ y v, y ∈ ys ∧ Rel X.K κ ι H y v ∧ RelV v w ∧ eqv y x = some true)) = true ↔ r = true := by
      rw [h2]
      simp only [List.any_toArray, List.any_eq_true, decide_eq_true_eq]
      constructor
      · rintro ⟨w, _, y, v, hm, _, _, eb⟩
        exact ⟨y, hm, eb⟩
      · rintro ⟨y, hm, eb⟩
        obtain ⟨j, hj⟩ := List.mem_iff_getElem?.mp hm
        obtain ⟨v, ev, rv1⟩ := rl.get hj
        obtain ⟨w, ew, rw1⟩ := rv.get ev
        exact ⟨w, List.mem_of_getElem? ew, y, v, hm, rv1, rw1, eb⟩
    cases r with
    | true => exact e1.mpr rfl
    | false =>
      cases q : its.toArray.any fun w => decide (∃ y v, y ∈ ys ∧ Rel X.K κ ι H y v ∧ RelV v w ∧ eqv y x = some true) with
      | false => rfl
      | true => exact (e1.mp q).symm
theorem str_one {a : Str} (h : a.length = 1) : a = ⟨#[a.cps.getD 0 0]⟩ := by
  obtain ⟨cs⟩ := a
  obtain ⟨l⟩ := cs
  match l, h with
  | [c], _ => rfl
theorem seqOf_rel {μ : Store} (sr : SR X.K κ ι μ H) {y : AV} {v : V} {ys : List AV} (ry : Rel X.K κ ι H y v) (e : seqOf μ y = some ys) : ∃ p vs, v = .ref p ∧ (SqL X.K H p vs ∨ SqT X.K H p vs) ∧ RelL X.K κ ι H ys vs := by
  cases ry with
  | tup h r => cases e; exact ⟨_, _, rfl, .inr h, r⟩
  | lst h r => obtain ⟨p, vs, e1, h1, r1⟩ := ls_rel sr (.lst h r) e; exact ⟨p, vs, e1, .inl h1, r1⟩
  | loc h => obtain ⟨p, vs, e1, h1, r1⟩ := ls_rel sr (.loc h) e; exact ⟨p, vs, e1, .inl h1, r1⟩
  | _ => cases e
theorem inB_cases {x y : AV} {μ : Store} {r : Bool} (h : inB x y μ = some r) : (∃ a b, x = .str a ∧ y = .str b ∧ a.length = 1 ∧ r = decide (a.cps.getD 0 0 ∈ b.cps.toList)) ∨
    ∃ ys, seqOf μ y = some ys ∧ isD x = true ∧ isDL ys = true ∧ dep x ≤ 140 ∧ anyEq x ys = some r := by
  unfold inB at h
  split at h
  · rename_i a b
    by_cases hl : a.length = 1
    · rw [if_pos hl] at h
      exact .inl ⟨a, b, rfl, rfl, hl, (Option.some.inj h).symm⟩
    · rw [if_neg hl] at h; cases h
  · split at h
    · rename_i ys e1
      by_cases hc : (isD x && isDL ys && decide (dep x ≤ 140)) = true
      · rw [if_pos hc] at h
        simp only [Bool.and_eq_true, decide_eq_true_eq] at hc
        exact .inr ⟨ys, e1, hc.1.1, hc.1.2, hc.2, h⟩
      · rw [if_neg hc] at h; cases h
    · cases h
theorem op_gIn (cl : Cl X k) : OpA κ X (compareOp .In) gIn := fun W tk pins s σ H x y v u Q I rx ry hh => by
  obtain ⟨σ0, ι, μ, a, b, sr, ra, rb, h⟩ := hh
  unfold gIn at h
  have hu : X.A.in1.units + 140 < cLine := by have := cl.room.un; show X.A.units + 1 + 140 < cLine; omega
  split at h
  · rename_i r er
    rcases inB_cases er with ⟨a', b', rfl, rfl, hl, rfl⟩ | ⟨ys, e1, h1, h2, h3, h4⟩
    · cases ra; cases rb
      rw [str_one hl] at rx
      exact op_in_sign pins s σ H _ _ v u Q I rx ry ⟨_, _, rfl, rfl, ok1 sr h (.bl _)⟩
    · obtain ⟨p, vs, rfl, hq, rl⟩ := seqOf_rel sr rb e1
      cases ry
      rcases hq with hq | hq
      · obtain ⟨its, rv, pl, hz⟩ := I.list hq
        obtain ⟨e, he, hr⟩ := in_items I h1 h2 h3 ra rx rl rv h4 hu
        exact SeqAt.in_listAt e pl.isList he ⟨.bl _, H, I, rfl, by rw [hr]; exact ok1 sr h (.bl _)⟩
      · obtain ⟨its, rv, pl, hz⟩ := I.tuple hq
        obtain ⟨e, he, hr⟩ := in_items I h1 h2 h3 ra rx rl rv h4 hu
        exact SeqAt.in_tupleAt e pl he ⟨.bl _, H, I, rfl, by rw [hr]; exact ok1 sr h (.bl _)⟩
  · exact False.elim h
theorem op_gNotIn (cl : Cl X k) : OpA κ X (compareOp .NotIn) gNotIn := fun W tk pins s σ H x y v u Q I rx ry hh => by
  obtain ⟨σ0, ι, μ, a, b, sr, ra, rb, h⟩ := hh
  unfold gNotIn at h
  have hu : X.A.in1.units + 140 < cLine := by have := cl.room.un; show X.A.units + 1 + 140 < cLine; omega
  split at h
  · rename_i r er
    rcases inB_cases er with ⟨a', b', rfl, rfl, hl, rfl⟩ | ⟨ys, e1, h1, h2, h3, h4⟩
    · cases ra; cases rb
      rw [str_one hl] at rx
      exact op_notIn_sign pins s σ H _ _ v u Q I rx ry ⟨_, _, rfl, rfl, ok1 sr h (.bl _)⟩
    · obtain ⟨p, vs, rfl, hq, rl⟩ := seqOf_rel sr rb e1
      cases ry
      rcases hq with hq | hq
      · obtain ⟨its, rv, pl, hz⟩ := I.list hq
        obtain ⟨e, he, hr⟩ := in_items I h1 h2 h3 ra rx rl rv h4 hu
        exact SeqAt.notIn_listAt e pl.isList he ⟨.bl _, H, I, rfl, by rw [hr]; exact ok1 sr h (.bl _)⟩
      · obtain ⟨its, rv, pl, hz⟩ := I.tuple hq
        obtain ⟨e, he, hr⟩ := in_items I h1 h2 h3 ra rx rl rv h4 hu
        exact SeqAt.notIn_tupleAt e pl he ⟨.bl _, H, I, rfl, by rw [hr]; exact ok1 sr h (.bl _)⟩
  · exact False.elim h



def tB1 (r : AE) : AT := fun ρ μ => (r ρ μ).bind fun x μ1 => match x with
  | .bl k => .ok k μ1
  | _ => .bad
def truA (μ : Store) : AV → Option Bool
  | .non => some false
  | .bl k => some k
  | .int i => some (i != 0)
  | .str x => if x.length ≤ 16777216 then some ((x.length : Int) != 0) else none
  | .tup xs => some (!xs.isEmpty)
  | .lst xs => some (!xs.isEmpty)
  | .loc n => match μ[n]? with
    | some (.lst xs) => some (!xs.isEmpty)
    | _ => none
  | _ => none

def tTr (r : AE) : AT := fun ρ μ => (r ρ μ).bind fun x μ1 => match truA μ1 x with
  | some k => .ok k μ1
  | none => .bad
theorem im_b1 {K : PySem.W.Frag} {W : WX} {t : TE} (i : ImE K κ W t r) : ImT K κ W (tB t) (tB1 r) := fun σ H Q ι ρ μ sr rl h => by
  refine i σ H _ ι ρ μ sr rl (PG.bind h fun x μ1 ι1 H1 p1 m1 sr1 h1 v rv => ?_)
  cases x <;> first | exact False.elim h1 | skip
  cases rv
  exact ⟨_, rfl, h1 ι1 H1 (List.prefix_refl _) (HM.refl _) sr1⟩
theorem DT.cmp {op : CmpOp} (ho : OpA κ X (compareOp op) g) (ha : DE κ X a ra) (hb : DE κ X b rb) (hm : behindInMarks op b = false := by first | exact nomark _ | rfl) : DT κ X (.Compare a [op] [b] pos) (tB1 (eOp g ra rb)) := fun W tk => by
  obtain ⟨ta, pa, ia⟩ := ha W tk
  obtain ⟨tb, pb, ib⟩ := hb W tk
  exact ⟨_, pt_cmpR (ho W tk) pa pb hm, im_b1 (im_op ia ib)⟩
theorem DT.val (h : DE κ X e r) (he : ∀ whole, isTrue e X.env whole = (do let v ← whole; standAt e.pos; holding [v] (truthy v)) := by intro _; rfl) : DT κ X e (tB1 r) := fun W tk => by
  obtain ⟨t, p, i⟩ := h W tk
  exact ⟨_, pt_val p he, im_b1 i⟩
theorem tru_rel {μ : Store} (sr : SR X.K κ ι μ H) {x : AV} {v : V} {b : Bool} (r : Rel X.K κ ι H x v) (e : truA μ x = some b) : TruV X.K v H b := by
  cases r with
  | non => exact (Option.some.inj e).symm
  | bl k => exact (Option.some.inj e).symm
  | int i => exact (Option.some.inj e).symm
  | str y =>
    simp only [truA] at e
    split at e
    · rename_i hz
      exact ⟨by rw [line16]; exact hz, (Option.some.inj e).symm⟩
    · cases e
  | tup h r =>
    refine .inr (.inl ⟨_, h, ?_⟩)
    rw [← Option.some.inj e]
    cases r <;> rfl
  | lst h r =>
    refine .inl ⟨_, h.sq, ?_⟩
    rw [← Option.some.inj e]
    cases r <;> rfl
  | loc h =>
    rename_i n p
    simp only [truA] at e
    split at e
    · rename_i xs q
      obtain ⟨vs, e1, r1⟩ := sr.obj n _ p q h
      refine .inl ⟨vs, .inl (.inl e1), ?_⟩
      rw [← Option.some.inj e]
      cases r1 <;> rfl
    · cases e
  | _ => cases e
theorem DT.truth (h : DE κ X e r) (he : ∀ whole, isTrue e X.env whole = (do let v ← whole; standAt e.pos; holding [v] (truthy v)) := by intro _; rfl) : DT κ X e (tTr r) := fun W tk => by
  obtain ⟨t, p, i⟩ := h W tk
  refine ⟨_, pt_truth p he, fun σ H Q ι ρ μ sr rl h => ?_⟩
  refine i σ H _ ι ρ μ sr rl (PG.bind h fun x μ1 ι1 H1 p1 m1 sr1 h1 v rv => ?_)
  split at h1
  · rename_i b eb
    exact ⟨b, tru_rel sr1 rv eb, h1 ι1 H1 (List.prefix_refl _) (HM.refl _) sr1⟩
  · exact False.elim h1
def tNt (t : AT) : AT := fun ρ μ => (t ρ μ).bind fun b μ1 => .ok (!b) μ1
def tAn (t u : AT) : AT := fun ρ μ => (t ρ μ).bind fun b μ1 => if b then u ρ μ1 else .ok false μ1
def tOrr (t u : AT) : AT := fun ρ μ => (t ρ μ).bind fun b μ1 => if b then .ok true μ1 else u ρ μ1
variable {ta tb : AT}
theorem DT.not (h : DT κ X a ta) : DT κ X (.UnaryOp .Not a pos) (tNt ta) := fun W tk => by
  obtain ⟨t, p, i⟩ := h W tk
  refine ⟨_, pt_not p, fun σ H Q ι ρ μ sr rl h => ?_⟩
  exact i σ H _ ι ρ μ sr rl (PG.bind h fun b μ1 ι1 H1 p1 m1 sr1 h1 => h1 ι1 H1 (List.prefix_refl _) (HM.refl _) sr1)

def DW (κ : Nat → Addr) (X : Cx) (e : Expr) (r : AT) : Prop := ∀ W : WX, Takes X W → ∃ t, PW X e t ∧ ImT X.K κ W t r
variable {rest : List Expr}
theorem DW.t (h : DW κ X e ta) : DT κ X e ta := fun W tk => let ⟨t, p, i⟩ := h W tk; ⟨t, p.pt, i⟩
theorem DW.and1 (h : DT κ X a ta) : DW κ X (.BoolOp .And [a] pos) ta := fun W tk => let ⟨t, p, i⟩ := h W tk; ⟨t, pw_and1 p, i⟩
theorem DW.or1 (h : DT κ X a ta) : DW κ X (.BoolOp .Or [a] pos) ta := fun W tk => let ⟨t, p, i⟩ := h W tk; ⟨t, pw_or1 p, i⟩
theorem DW.and (ha : DT κ X a ta) (hb : DW κ X (.BoolOp .And (b :: rest) pos) tb) : DW κ X (.BoolOp .And (a :: b :: rest) pos) (tAn ta tb) := fun W tk => by
  obtain ⟨t, p, i⟩ := ha W tk
  obtain ⟨u, q, j⟩ := hb W tk
  refine ⟨_, pw_and p q, fun σ H Q ι ρ μ sr rl h => ?_⟩
  refine i σ H _ ι ρ μ sr rl (PG.bind h fun b μ1 ι1 H1 p1 m1 sr1 h1 => ?_)
  cases b with
  | true => exact iteT (j σ H1 Q ι1 ρ μ1 sr1 (rl.mono p1 m1) h1)
  | false => exact iteF (h1 ι1 H1 (List.prefix_refl _) (HM.refl _) sr1)
theorem DW.or (ha : DT κ X a ta) (hb : DW κ X (.BoolOp .Or (b :: rest) pos) tb) : DW κ X (.BoolOp .Or (a :: b :: rest) pos) (tOrr ta tb) := fun W tk => by
  obtain ⟨t, p, i⟩ := ha W tk
  obtain ⟨u, q, j⟩ := hb W tk
  refine ⟨_, pw_or p q, fun σ H Q ι ρ μ sr rl h => ?_⟩
  refine i σ H _ ι ρ μ sr rl (PG.bind h fun b μ1 ι1 H1 p1 m1 sr1 h1 => ?_)
  cases b with
  | true => exact iteT (h1 ι1 H1 (List.prefix_refl _) (HM.refl _) sr1)
  | false => exact iteF (j σ H1 Q ι1 ρ μ1 sr1 (rl.mono p1 m1) h1)


def eAn (a b : AE) : AE := fun ρ μ => (a ρ μ).bind fun x μ1 => match x with
  | .bl true => b ρ μ1
  | .bl false => .ok (.bl false) μ1
  | _ => .bad
def eOr (a b : AE) : AE := fun ρ μ => (a ρ μ).bind fun x μ1 => match x with
  | .bl true => .ok (.bl true) μ1
  | .bl false => b ρ μ1
  | _ => .bad
def eNt (a : AE) : AE := fun ρ μ => (a ρ μ).bind fun x μ1 => match x with
  | .bl k => .ok (.bl (!k)) μ1
  | _ => .bad
theorem DE.one {op : BoolOp} (h : DE κ X a ra) : DE κ X (.BoolOp op [a] pos) ra := fun W tk => let ⟨t, p, i⟩ := h W tk; ⟨t, pe_one p, i⟩
theorem DE.and (ha : DE κ X a ra) (hb : DE κ X (.BoolOp .And (b :: rest) pos) rb) : DE κ X (.BoolOp .And (a :: b :: rest) pos) (eAn ra rb) := fun W tk => by
  obtain ⟨t, p, i⟩ := ha W tk
  obtain ⟨u, q, j⟩ := hb W tk
  refine ⟨_, pe_and p q, fun σ H Q ι ρ μ sr rl h => ?_⟩
  refine i σ H _ ι ρ μ sr rl (PG.bind h fun x μ1 ι1 H1 p1 m1 sr1 h1 v rv => ?_)
  cases x <;> first | exact False.elim h1 | skip
  rename_i b
  cases rv
  refine ⟨b, rfl, ?_⟩
  cases b with
  | true => exact iteT (j σ H1 Q ι1 ρ μ1 sr1 (rl.mono p1 m1) h1)
  | false => exact iteF (ok1 sr1 h1 (.bl _))
theorem DE.or (ha : DE κ X a ra) (hb : DE κ X (.BoolOp .Or (b :: rest) pos) rb) : DE κ X (.BoolOp .Or (a :: b :: rest) pos) (eOr ra rb) := fun W tk => by
  obtain ⟨t, p, i⟩ := ha W tk
  obtain ⟨u, q, j⟩ := hb W tk
  refine ⟨_, pe_or p q, fun σ H Q ι ρ μ sr rl h => ?_⟩
  refine i σ H _ ι ρ μ sr rl (PG.bind h fun x μ1 ι1 H1 p1 m1 sr1 h1 v rv => ?_)
  cases x <;> first | exact False.elim h1 | skip
  rename_i b
  cases rv
  refine ⟨b, rfl, ?_⟩
  cases b with
  | true => exact iteT (ok1 sr1 h1 (.bl _))
  | false => exact iteF (j σ H1 Q ι1 ρ μ1 sr1 (rl.mono p1 m1) h1)
theorem DE.not (ha : DE κ X a ra) : DE κ X (.UnaryOp .Not a pos) (eNt ra) := fun W tk => by
  obtain ⟨t, p, i⟩ := ha W tk
  refine ⟨_, pe_not p, fun σ H Q ι ρ μ sr rl h => ?_⟩
  refine i σ H _ ι ρ μ sr rl (PG.bind h fun x μ1 ι1 H1 p1 m1 sr1 h1 v rv => ?_)
  cases x <;> first | exact False.elim h1 | skip
  cases rv
  exact ⟨_, rfl, ok1 sr1 h1 (.bl _)⟩
def eIf (t : AT) (a b : AE) : AE := fun ρ μ => (t ρ μ).bind fun k μ1 => if k then a ρ μ1 else b ρ μ1
theorem DE.ifx {t : Expr} (ht : DT κ X t ta) (ha : DE κ X a ra) (hb : DE κ X b rb) : DE κ X (.IfExp t a b pos) (eIf ta ra rb) := fun W tk => by
  obtain ⟨t0, p0, i0⟩ := ht W tk
  obtain ⟨t1, p1, i1⟩ := ha W tk
  obtain ⟨t2, p2, i2⟩ := hb W tk
  refine ⟨_, pe_ifExp p0 p1 p2, fun σ H Q ι ρ μ sr rl h => ?_⟩
  refine i0 σ H _ ι ρ μ sr rl (PG.bind h fun b μ1 ι1 H1 p1 m1 sr1 h1 => ?_)
  cases b with
  | true => exact iteT (i1 σ H1 Q ι1 ρ μ1 sr1 (rl.mono p1 m1) h1)
  | false => exact iteF (i2 σ H1 Q ι1 ρ μ1 sr1 (rl.mono p1 m1) h1)
def eChain (g g' : G2) (a b c : AE) : AE := fun ρ μ => (a ρ μ).bind fun x μ1 => (b ρ μ1).bind fun y μ2 => (g x y μ2).bind fun z μ3 => match z with
  | .bl true => (c ρ μ3).bind fun w μ4 => g' y w μ4
  | .bl false => .ok (.bl false) μ3
  | _ => .bad
theorem im_chain {K : PySem.W.Frag} {W : WX} {t1 t2 t3 : TE} (i1 : ImE K κ W t1 ra) (i2 : ImE K κ W t2 rb) (i3 : ImE K κ W t3 rc) : ImE K κ W (tChain (rA K κ W g) (rA K κ W g') t1 t2 t3) (eChain g g' ra rb rc) := fun σ H Q ι ρ μ sr rl h => by
  refine i1 σ H _ ι ρ μ sr rl (PG.bind h fun x μ1 ι1 H1 p1 m1 sr1 h1 v rv => ?_)
  refine i2 σ H1 _ ι1 ρ μ1 sr1 (rl.mono p1 m1) (PG.bind h1 fun y μ2 ι2 H2 p2 m2 sr2 h2 u ru => ?_)
  refine ⟨σ, ι2, μ2, x, y, sr2, rv.mono p2 m2, ru, PG.bind h2 fun z μ3 ι3 H3 p3 m3 sr3 h3 w rw' => ?_⟩
  cases z <;> first | exact False.elim h3 | skip
  rename_i b
  cases rw'
  refine ⟨b, rfl, ?_⟩
  cases b with
  | true =>
    refine iteT (i3 σ H3 _ ι3 ρ μ3 sr3 (rl.mono ((p1.trans p2).trans p3) ((m1.trans m2).trans m3)) (PG.bind h3 fun z μ4 ι4 H4 p4 m4 sr4 h4 w rw4 => ?_))
    exact ⟨σ, ι4, μ4, y, z, sr4, ru.mono (p3.trans p4) (m3.trans m4), rw4, h4⟩
  | false => exact iteF (ok1 sr3 h3 (.bl _))
theorem DE.chain {op op' : CmpOp} (ho : OpA κ X (compareOp op) g) (ho' : OpA κ X (compareOp op') g') (ha : DE κ X a ra) (hb : DE κ X b rb) (hc : DE κ X c rc) (hm : lastMarks [op, op'] [b, c] = false := by with_unfolding_all rfl) :
    DE κ X (.Compare a [op, op'] [b, c] pos) (eChain g g' ra rb rc) := fun W tk => by
  obtain ⟨t1, p1, i1⟩ := ha W tk
  obtain ⟨t2, p2, i2⟩ := hb W tk
  obtain ⟨t3, p3, i3⟩ := hc W tk
  exact ⟨_, pe_chain (ho W tk) (ho' W tk) p1 p2 p3 hm, im_chain i1 i2 i3⟩
theorem DT.chain {op op' : CmpOp} (ho : OpA κ X (compareOp op) g) (ho' : OpA κ X (compareOp op') g') (ha : DE κ X a ra) (hb : DE κ X b rb) (hc : DE κ X c rc) (hm : lastMarks [op, op'] [b, c] = false := by with_unfolding_all rfl) :
    DT κ X (.Compare a [op, op'] [b, c] pos) (tB1 (eChain g g' ra rb rc)) := fun W tk => by
  obtain ⟨t1, p1, i1⟩ := ha W tk
  obtain ⟨t2, p2, i2⟩ := hb W tk
  obtain ⟨t3, p3, i3⟩ := hc W tk
  exact ⟨_, pt_chain (ho W tk) (ho' W tk) p1 p2 p3 hm, im_b1 (im_chain i1 i2 i3)⟩
end
end Lr


namespace Lr
open PySem PySem.Spec L2
open PyProof.Rows hiding St


def IxA (κ : Nat → Addr) (X : Cx) (g : G2) : Prop := ∀ W, Takes X W → IxR X (rA X.K κ W g)
def gIx : G2 := fun x y μ => match y with
  | .int i => match x with
    | .str z => if z.length ≤ 16777216 then (match atI z.cps.toList i with
      | some c => .ok (.str ⟨#[c]⟩) μ
      | none => .bad) else .bad
    | .scr ns => match atI ns i with
      | some n => .ok (.int n) μ
      | none => .bad
    | x => match seqOf μ x with
      | some xs => match atI xs i with
        | some v => .ok v μ
        | none => .bad
      | none => .bad
  | _ => .bad
section
variable {κ : Nat → Addr} {X : Cx} {a b c e : Expr} {ra rb rc r : AE} {pos p2 : Pos} {g g' : G2} {k : Nat} {es : List Expr} {rs : AA}
theorem atI_rel {K : PySem.W.Frag} {ι : List Addr} {H : Hp} {xs : List AV} {vs : List V} {i : Int} {x : AV} (r : RelL K κ ι H xs vs) (e : atI xs i = some x) : ∃ v, atI vs i = some v ∧ Rel K κ ι H x v := by
  unfold atI at e ⊢
  rw [← r.length]
  cases q : ixN xs.length i with
  | none => rw [q] at e; cases e
  | some j =>
    rw [q] at e
    exact r.get e
theorem ix_gIx : IxA κ X gIx := fun W tk value slice pins s σ H x y v u Q I rx ry hh hs => by
  obtain ⟨σ0, ι, μ, a, b, sr, ra, rb, h⟩ := hh
  unfold gIx at h
  cases b <;> first | exact False.elim h | skip
  rename_i i
  cases rb
  have seq : ∀ {xs : List AV}, seqOf μ a = some xs → PG X.K κ W σ0 ι H (CV X.K κ Q) (match atI xs i with | some v => Res.ok v μ | none => .bad) → wpAny (model X.prog X.w) X.A (subscriptTail value slice v u) (EP X pins σ Q) X.xe s := fun {xs} e1 h => by
    cases q : atI xs i with
    | none => rw [q] at h; exact False.elim h
    | some z =>
      rw [q] at h
      obtain ⟨p, vs, rfl, hq, rl⟩ := seqOf_rel sr ra e1
      obtain ⟨zv, ez, rz⟩ := atI_rel rl q
      rcases hq with hq | hq
      · exact ix_list value slice pins s σ H _ _ v u Q I rx ry ⟨p, vs, i, zv, rfl, rfl, hq, ez, ok1 sr h rz⟩ hs
      · exact ix_tup value slice pins s σ H _ _ v u Q I rx ry ⟨p, vs, i, zv, rfl, rfl, hq, ez, ok1 sr h rz⟩ hs
  cases a with
  | str z =>
    cases ra
    simp only at h
    by_cases hz : z.length ≤ 16777216
    · rw [if_pos hz] at h
      cases q : atI z.cps.toList i with
      | none => rw [q] at h; exact False.elim h
      | some c =>
        rw [q] at h
        exact ix_str value slice pins s σ H _ _ v u Q I rx ry ⟨z, i, c, rfl, rfl, by rw [line16]; exact hz, q, ok1 sr h (.str _)⟩ hs
    · rw [if_neg hz] at h
      exact False.elim h
  | scr ns =>
    cases ra with
    | scr hq =>
      simp only at h
      cases q : atI ns i with
      | none => rw [q] at h; exact False.elim h
      | some n =>
        rw [q] at h
        have e2 : atI (ns.map V.int) i = some (.int n) := by
          unfold atI at q ⊢
          rw [List.length_map]
          cases q2 : ixN ns.length i with
          | none => rw [q2] at q; cases q
          | some j =>
            rw [q2] at q
            simp only [Option.bind_some] at q ⊢
            rw [List.getElem?_map, q]
            rfl
        exact ix_list value slice pins s σ H _ _ v u Q I rx ry ⟨_, _, i, _, rfl, rfl, hq.sq, e2, ok1 sr h (.int n)⟩ hs
  | tup xs => exact seq rfl h
  | lst xs => exact seq rfl h
  | loc n =>
    cases q : seqOf μ (.loc n) with
    | none => simp only [q] at h; exact False.elim h
    | some xs => simp only [q] at h; exact seq q h
  | _ => exact False.elim h
theorem DE.ix (hr : IxA κ X g) (ha : DE κ X a ra) (hb : DE κ X b rb) (hs : PlainIx b := by intro _ _; rfl) : DE κ X (.Subscript a b pos) (eOp g ra rb) := fun W tk => by
  obtain ⟨t1, p1, i1⟩ := ha W tk
  obtain ⟨t2, p2, i2⟩ := hb W tk
  exact ⟨_, pe_ix (hr W tk) p1 p2 hs, im_op i1 i2⟩


abbrev AO' := Loc → Store → Res (Option Int)
def oNone : AO' := fun _ μ => .ok none μ
def oSome (r : AE) : AO' := fun ρ μ => (r ρ μ).bind fun x μ1 => match x with
  | .int i => .ok (some i) μ1
  | _ => .bad
def DO (κ : Nat → Addr) (X : Cx) (e : Option Expr) (r : AO') : Prop := ∀ W : WX, Takes X W → ∃ t : TO, PO X e t ∧ ∀ (σ : St) (H : Hp) (Q : Option Int → Hp → Prop) (ι : List Addr) (ρ : Loc) (μ : Store), SR X.K κ ι μ H → RelS X.K κ ι H ρ σ → PG X.K κ W σ ι H (fun o _ H' => Q o H') (r ρ μ) → t σ H Q
theorem DO.none : DO κ X none oNone := fun W _ => ⟨_, po_none, fun σ H Q ι ρ μ sr rl h => h ι H (List.prefix_refl _) (HM.refl _) sr⟩
theorem DO.some (ha : DE κ X a ra) : DO κ X (some a) (oSome ra) := fun W tk => by
  obtain ⟨t, p, i⟩ := ha W tk
  refine ⟨_, po_some p, fun σ H Q ι ρ μ sr rl h => ?_⟩
  refine i σ H _ ι ρ μ sr rl (PG.bind h fun x μ1 ι1 H1 p1 m1 sr1 h1 v rv => ?_)
  cases x <;> first | exact False.elim h1 | skip
  cases rv
  exact ⟨_, rfl, h1 ι1 H1 (List.prefix_refl _) (HM.refl _) sr1⟩

def cutA {α : Type} (xs : List α) (lo hi : Option Int) : List α := (xs.drop (HT.sIx xs.length 0 lo)).take (HT.sIx xs.length xs.length hi - HT.sIx xs.length 0 lo)
def eSl (a : AE) (lo hi : AO') : AE := fun ρ μ => (a ρ μ).bind fun x μ1 => (lo ρ μ1).bind fun l μ2 => (hi ρ μ2).bind fun h μ3 => match x with
  | .tup xs => .ok (.tup (cutA xs l h)) μ3
  | .str z => if z.length ≤ 16777216 then .ok (.str ⟨(cutA z.cps.toList l h).toArray⟩) μ3 else .bad
  | _ => .bad
def aSl (a : AE) (lo hi : AO') : AA := fun ρ μ => (a ρ μ).bind fun x μ1 => (lo ρ μ1).bind fun l μ2 => (hi ρ μ2).bind fun h μ3 => match lsOf μ3 x with
  | some xs => .ok (cutA xs l h) μ3
  | none => .bad
variable {lo hi : Option Expr} {rl rh : AO'}
theorem RelL.cut {K : PySem.W.Frag} {ι : List Addr} {H : Hp} {xs : List AV} {vs : List V} (r : RelL K κ ι H xs vs) (l h : Option Int) : RelL K κ ι H (cutA xs l h) (cutV vs l h) := by
  unfold cutA cutV
  rw [r.length]
  exact (r.drop _).take _
theorem cut_whole {xs : List AV} {l h : Option Int} (e : HT.sIx xs.length 0 l = 0 ∧ HT.sIx xs.length xs.length h = xs.length) : cutA xs l h = xs := by
  unfold cutA
  rw [e.1, e.2, List.drop_zero, Nat.sub_zero, List.take_length]
theorem DE.sl (ha : DE κ X a ra) (hl : DO κ X lo rl) (hh : DO κ X hi rh) : DE κ X (.Subscript a (.Slice lo hi none p2) pos) (eSl ra rl rh) := fun W tk => by
  obtain ⟨t1, p1, i1⟩ := ha W tk
  obtain ⟨t2, p2, i2⟩ := hl W tk
  obtain ⟨t3, p3, i3⟩ := hh W tk
  refine ⟨_, pe_slice (sl_tupA.or sl_str) p1 p2 p3, fun σ H Q ι ρ μ sr rl h => ?_⟩
  refine i1 σ H _ ι ρ μ sr rl (PG.bind h fun x μ1 ι1 H1 p1 m1 sr1 h1 v rv => ?_)
  refine i2 σ H1 _ ι1 ρ μ1 sr1 (rl.mono p1 m1) (PG.bind h1 fun l μ2 ι2 H2 p2 m2 sr2 h2 => ?_)
  refine i3 σ H2 _ ι2 ρ μ2 sr2 (rl.mono (p1.trans p2) (m1.trans m2)) (PG.bind h2 fun hh μ3 ι3 H3 p3 m3 sr3 h3 => ?_)
  have rv := rv.mono (p2.trans p3) (m2.trans m3)
  cases x <;> first | exact False.elim h3 | skip
  · cases rv
    rename_i z
    by_cases hz : z.length ≤ 16777216
    · simp only [if_pos hz] at h3
      exact .inr ⟨z, rfl, by rw [line16]; exact hz, ok1 sr3 h3 (.str _)⟩
    · simp only [if_neg hz] at h3
      exact False.elim h3
  · cases rv with
    | tup h r =>
      refine .inl ⟨_, _, rfl, h, fun ew => ?_, fun _ p hn => ?_⟩
      · rw [← r.length] at ew
        simp only [cut_whole ew] at h3
        exact ok1 sr3 h3 (.tup h r)
      · exact okT sr3 h3 (r.cut l hh) hn
theorem DN.sl (cl : Cl X k) (ha : DE κ X a ra) (hl : DO κ X lo rl) (hh : DO κ X hi rh) : DN κ X (.Subscript a (.Slice lo hi none p2) pos) (aSl ra rl rh) := DN.mk cl fun W tk => by
  obtain ⟨t1, p1, i1⟩ := ha W tk
  obtain ⟨t2, p2, i2⟩ := hl W tk
  obtain ⟨t3, p3, i3⟩ := hh W tk
  refine ⟨_, pe_slice sl_list p1 p2 p3, fun σ H Q ι ρ μ sr rl h => ?_⟩
  refine i1 σ H _ ι ρ μ sr rl (PG.bind0 h fun x μ1 ι1 H1 p1 m1 sr1 h1 v rv => ?_)
  refine i2 σ H1 _ ι1 ρ μ1 sr1 (rl.mono p1 m1) (PG.bindF m1 h1 fun l μ2 ι2 H2 p2 m2 sr2 h2 => ?_)
  refine i3 σ H2 _ ι2 ρ μ2 sr2 (rl.mono (p1.trans p2) (m1.trans m2)) (PG.bindF (m1.trans m2) h2 fun hh μ3 ι3 H3 p3 m3 sr3 h3 => ?_)
  have rv := rv.mono (p2.trans p3) (m2.trans m3)
  split at h3
  · rename_i xs e1
    obtain ⟨p, vs, rfl, hq, rl⟩ := ls_rel sr3 rv e1
    refine ⟨p, vs, rfl, hq, fun a hn => ?_⟩
    exact okNew sr sr3 ((m1.trans m2).trans m3) h3 (rl.cut l hh) hn
  · exact False.elim h3


def rC (K : PySem.W.Frag) (κ : Nat → Addr) (W : WX) (g : Fn) : List V → Hp → VK → Prop := fun xs H Q => ∃ (σ : St) (ι : List Addr) (μ : Store) (as : List AV), SR K κ ι μ H ∧ RelL K κ ι H as xs ∧ PG K κ W σ ι H (CV K κ Q) (g as μ)
def CallA (κ : Nat → Addr) (X : Cx) (f : Value) (g : Fn) : Prop := ∀ W, Takes X W → CallR X f (rC X.K κ W g)
abbrev FnN := List AV → Store → Res (List AV)
abbrev CN' (K : PySem.W.Frag) (κ : Nat → Addr) (H : Hp) (Q : VK) : List AV → List Addr → Hp → Prop := fun vs ι' H' => ∀ (a : Addr) (xs : List V), RelL K κ ι' H' vs xs → H' a = some (.lst xs) → a ∉ ι' → H a = none → Q (.ref a) H'
def rCN (K : PySem.W.Frag) (κ : Nat → Addr) (W : WX) (g : FnN) : List V → Hp → VK → Prop := fun xs H Q => ∃ (σ : St) (ι₀ : List Addr) (H₀ : Hp) (μ₀ : Store) (ι : List Addr) (μ : Store) (as : List AV), SR K κ ι₀ μ₀ H₀ ∧ HM ι₀ H₀ ι H ∧ SR K κ ι μ H ∧ RelL K κ ι H as xs ∧ PG K κ W σ ι₀ H₀ (CN' K κ H₀ Q) (g as μ)
def CallN (κ : Nat → Addr) (X : Cx) (f : Value) (g : FnN) : Prop := ∀ W, Takes X W → CallR X f (rCN X.K κ W g)
def eCB (g : Fn) (r : AA) : AE := fun ρ μ => (r ρ μ).bind fun xs μ1 => g xs μ1
def aCB (g : FnN) (r : AA) : AA := fun ρ μ => (r ρ μ).bind fun xs μ1 => g xs μ1
variable {x : Str} {p : Pos} {id T : String} {f : Fn} {fn : FnN}
theorem DE.callB (hc : CallA κ X (.builtin id) f) (hg : Gl X x) (hm : X.mg x = none) (hv : bootBuiltins x = some (.builtin id)) (ha : DA κ X (e :: es) rs) (hn : x ≠ "__name__" := by decide) (hdb : (x == ("__debug__" : Str)) = false := by decide)
    (he : starEach (e :: es) X.env = (false, eval e X.env) :: starEach es X.env := by rfl) (hpl : (backTo pos (starEach es X.env)).any (·.1) = false := by rfl) : DE κ X (.Call (.Name x p) (e :: es) [] pos) (eCB f rs) := fun W tk => by
  obtain ⟨t, q, i⟩ := ha W tk
  refine ⟨_, pe_callB (hc W tk) hg hm hv q hn hdb he hpl, fun σ H Q ι ρ μ sr rl h => ?_⟩
  exact i σ H _ ι ρ μ sr rl (PG.bind h fun xs μ1 ι1 H1 p1 m1 sr1 h1 vs rv => ⟨σ, ι1, μ1, xs, sr1, rv, h1⟩)
theorem DE.callTy (hc : CallA κ X (.type T) f) (hg : Gl X x) (hm : X.mg x = none) (hv : bootBuiltins x = some (.type T)) (ha : DA κ X (e :: es) rs) (hn : x ≠ "__name__" := by decide) (hdb : (x == ("__debug__" : Str)) = false := by decide)
    (he : starEach (e :: es) X.env = (false, eval e X.env) :: starEach es X.env := by rfl) (hpl : (backTo pos (starEach es X.env)).any (·.1) = false := by rfl) : DE κ X (.Call (.Name x p) (e :: es) [] pos) (eCB f rs) := fun W tk => by
  obtain ⟨t, q, i⟩ := ha W tk
  refine ⟨_, pe_callTy (hc W tk) hg hm hv q hn hdb he hpl, fun σ H Q ι ρ μ sr rl h => ?_⟩
  exact i σ H _ ι ρ μ sr rl (PG.bind h fun xs μ1 ι1 H1 p1 m1 sr1 h1 vs rv => ⟨σ, ι1, μ1, xs, sr1, rv, h1⟩)
theorem DN.callB (cl : Cl X k) (hc : CallN κ X (.builtin id) fn) (hg : Gl X x) (hm : X.mg x = none) (hv : bootBuiltins x = some (.builtin id)) (ha : DA κ X (e :: es) rs) (hn : x ≠ "__name__" := by decide) (hdb : (x == ("__debug__" : Str)) = false := by decide)
    (he : starEach (e :: es) X.env = (false, eval e X.env) :: starEach es X.env := by rfl) (hpl : (backTo pos (starEach es X.env)).any (·.1) = false := by rfl) : DN κ X (.Call (.Name x p) (e :: es) [] pos) (aCB fn rs) := DN.mk cl fun W tk => by
  obtain ⟨t, q, i⟩ := ha W tk
  refine ⟨_, pe_callB (hc W tk) hg hm hv q hn hdb he hpl, fun σ H Q ι ρ μ sr rl h => ?_⟩
  exact i σ H _ ι ρ μ sr rl (PG.bind0 h fun xs μ1 ι1 H1 p1 m1 sr1 h1 vs rv => ⟨σ, ι, H, μ, ι1, μ1, xs, sr, m1, sr1, rv, h1⟩)
theorem DN.callTy (cl : Cl X k) (hc : CallN κ X (.type T) fn) (hg : Gl X x) (hm : X.mg x = none) (hv : bootBuiltins x = some (.type T)) (ha : DA κ X (e :: es) rs) (hn : x ≠ "__name__" := by decide) (hdb : (x == ("__debug__" : Str)) = false := by decide)
    (he : starEach (e :: es) X.env = (false, eval e X.env) :: starEach es X.env := by rfl) (hpl : (backTo pos (starEach es X.env)).any (·.1) = false := by rfl) : DN κ X (.Call (.Name x p) (e :: es) [] pos) (aCB fn rs) := DN.mk cl fun W tk => by
  obtain ⟨t, q, i⟩ := ha W tk
  refine ⟨_, pe_callTy (hc W tk) hg hm hv q hn hdb he hpl, fun σ H Q ι ρ μ sr rl h => ?_⟩
  exact i σ H _ ι ρ μ sr rl (PG.bind0 h fun xs μ1 ι1 H1 p1 m1 sr1 h1 vs rv => ⟨σ, ι, H, μ, ι1, μ1, xs, sr, m1, sr1, rv, h1⟩)
def gLen : Fn := fun as μ => match as with
  | [.str z] => if z.length ≤ 16777216 then .ok (.int z.length) μ else .bad
  | [.scr ns] => .ok (.int ns.length) μ
  | [x] => match seqOf μ x with
    | some xs => .ok (.int xs.length) μ
    | none => .bad
  | _ => .bad
theorem ca_len : CallA κ X (.builtin "len") gLen := fun W tk pins s σ H xs us Q I r hh => by
  obtain ⟨σ0, ι, μ, as, sr, rl, h⟩ := hh
  unfold gLen at h
  split at h
  · rename_i z
    cases rl with
    | cons r1 r2 =>
      cases r2; cases r1
      by_cases hz : z.length ≤ 16777216
      · rw [if_pos hz] at h
        exact call_len pins s σ H _ us Q I r ⟨_, _, rfl, ⟨by rw [line16]; exact hz, rfl⟩, ok1 sr h (.int _)⟩
      · rw [if_neg hz] at h
        exact False.elim h
  · rename_i ns
    cases rl with
    | cons r1 r2 =>
      cases r2
      cases r1 with
      | scr hq => exact call_len pins s σ H _ us Q I r ⟨_, ns.length, rfl, .inl ⟨_, hq.sq, by simp⟩, ok1 sr h (.int _)⟩
  · rename_i x n1 n2
    split at h
    · rename_i ys e1
      cases rl with
      | cons r1 r2 =>
        cases r2
        obtain ⟨p, vs, rfl, hq, rl⟩ := seqOf_rel sr r1 e1
        refine call_len pins s σ H _ us Q I r ⟨_, ys.length, rfl, ?_, ok1 sr h (.int _)⟩
        rcases hq with hq | hq
        · exact .inl ⟨vs, hq, rl.length⟩
        · exact .inr ⟨vs, hq, rl.length⟩
    · exact False.elim h
  · exact False.elim h
def gAbs : Fn := fun as μ => match as with
  | [.int i] => .ok (.int (if i < 0 then -i else i)) μ
  | _ => .bad
theorem ca_abs : CallA κ X (.builtin "abs") gAbs := fun W tk pins s σ H xs us Q I r hh => by
  obtain ⟨σ0, ι, μ, as, sr, rl, h⟩ := hh
  unfold gAbs at h
  split at h
  · cases rl with
    | cons r1 r2 =>
      cases r2; cases r1
      exact call_abs pins s σ H _ us Q I r ⟨_, rfl, ok1 sr h (.int _)⟩
  · exact False.elim h
def gMax : Fn := fun as μ => match as with
  | [.int i, .int j] => .ok (.int (if j > i then j else i)) μ
  | _ => .bad
def gMin : Fn := fun as μ => match as with
  | [.int i, .int j] => .ok (.int (if j < i then j else i)) μ
  | _ => .bad
theorem ca_max (cl : Cl X k) : CallA κ X (.builtin "max") gMax := fun W tk pins s σ H xs us Q I r hh => by
  obtain ⟨σ0, ι, μ, as, sr, rl, h⟩ := hh
  unfold gMax at h
  split at h
  · cases rl with
    | cons r1 r2 =>
      cases r2 with
      | cons r2 r3 =>
        cases r3; cases r1; cases r2
        exact call_max2 cl.calm pins s σ H _ us Q I r ⟨_, _, rfl, ok1 sr h (.int _)⟩
  · exact False.elim h
theorem ca_min (cl : Cl X k) : CallA κ X (.builtin "min") gMin := fun W tk pins s σ H xs us Q I r hh => by
  obtain ⟨σ0, ι, μ, as, sr, rl, h⟩ := hh
  unfold gMin at h
  split at h
  · cases rl with
    | cons r1 r2 =>
      cases r2 with
      | cons r2 r3 =>
        cases r3; cases r1; cases r2
        exact call_min2 cl.calm pins s σ H _ us Q I r ⟨_, _, rfl, ok1 sr h (.int _)⟩
  · exact False.elim h
def gInt : Fn := fun as μ => match as with
  | [.int i] => .ok (.int i) μ
  | [.bl b] => .ok (.int (if b then 1 else 0)) μ
  | _ => .bad
theorem ca_int : CallA κ X (.type "int") gInt := fun W tk pins s σ H xs us Q I r hh => by
  obtain ⟨σ0, ι, μ, as, sr, rl, h⟩ := hh
  unfold gInt at h
  split at h
  · cases rl with
    | cons r1 r2 =>
      cases r2; cases r1
      exact call_int1 pins s σ H _ us Q I r (.inl ⟨_, rfl, ok1 sr h (.int _)⟩)
  · cases rl with
    | cons r1 r2 =>
      cases r2; cases r1
      exact call_int1 pins s σ H _ us Q I r (.inr ⟨_, rfl, ok1 sr h (.int _)⟩)
  · exact False.elim h
def gStr : Fn := fun as μ => match as with
  | [.int i] => if i.natAbs.log2 < 1920 then .ok (.str (toString i)) μ else .bad
  | [.str z] => .ok (.str z) μ
  | [.bl b] => .ok (.str (if b then "True" else "False")) μ
  | _ => .bad
theorem ca_str : CallA κ X (.type "str") gStr := fun W tk pins s σ H xs us Q I r hh => by
  obtain ⟨σ0, ι, μ, as, sr, rl, h⟩ := hh
  unfold gStr at h
  split at h
  · rename_i i
    cases rl with
    | cons r1 r2 =>
      cases r2; cases r1
      by_cases hz : i.natAbs.log2 < 1920
      · rw [if_pos hz] at h
        exact call_str_int pins s σ H _ us Q I r ⟨_, rfl, hz, ok1 sr h (.str _)⟩
      · rw [if_neg hz] at h
        exact False.elim h
  · cases rl with
    | cons r1 r2 =>
      cases r2; cases r1
      exact SkE.call_str_str pins s σ H _ us Q I r ⟨_, rfl, ok1 sr h (.str _)⟩
  · cases rl with
    | cons r1 r2 =>
      cases r2; cases r1
      obtain ⟨u, rfl, ru⟩ := r.one
      cases ru
      exact PySem.P.str_of_bool ⟨.str _, H, I.tok _, ⟨_, rfl⟩, ok1 sr h (.str _)⟩
  · exact False.elim h

def blsOf : List AV → Option (List Bool)
  | [] => some []
  | .bl b :: r => (blsOf r).map (b :: ·)
  | _ => none
theorem bls_map : ∀ {xs : List AV} {bs : List Bool}, blsOf xs = some bs → xs = bs.map AV.bl
  | [], bs, e => by cases e; rfl
  | x :: xs, bs, e => by
    cases x <;> first | (cases e; done) | skip
    simp only [blsOf, Option.map_eq_some_iff] at e
    obtain ⟨r, e1, e2⟩ := e
    subst e2
    rw [bls_map e1]
    rfl
theorem RelL.bls {K : PySem.W.Frag} {ι : List Addr} {H : Hp} : ∀ {bs : List Bool} {vs : List V}, RelL K κ ι H (bs.map AV.bl) vs → vs = bs.map V.bl
  | [], _, .nil => rfl
  | b :: bs, _, .cons h r => by
    cases h
    rw [RelL.bls r]
    rfl
theorem RelL.intsOf {K : PySem.W.Frag} {ι : List Addr} {H : Hp} : ∀ {bs : List Int} {vs : List V}, RelL K κ ι H (bs.map AV.int) vs → vs = bs.map V.int
  | [], _, .nil => rfl
  | b :: bs, _, .cons h r => by
    cases h
    rw [RelL.intsOf r]
    rfl
def gAll : Fn := fun as μ => match as with
  | [x] => match lsOf μ x with
    | some xs => match blsOf xs with
      | some bs => .ok (.bl (bs.all _root_.id)) μ
      | none => .bad
    | none => .bad
  | _ => .bad
def gAny : Fn := fun as μ => match as with
  | [x] => match lsOf μ x with
    | some xs => match blsOf xs with
      | some bs => .ok (.bl (bs.any _root_.id)) μ
      | none => .bad
    | none => .bad
  | _ => .bad
theorem ca_all (cl : Cl X k) : CallA κ X (.builtin "all") gAll := fun W tk pins s σ H xs us Q I r hh => by
  obtain ⟨σ0, ι, μ, as, sr, rl, h⟩ := hh
  unfold gAll at h
  split at h <;> first | exact False.elim h | skip
  split at h <;> first | exact False.elim h | skip
  split at h <;> first | exact False.elim h | skip
  rename_i x _ xs e1 _ bs e2
  cases rl with
  | cons r1 r2 =>
    cases r2
    obtain ⟨p, vs, rfl, hq, rl⟩ := ls_rel sr r1 e1
    rw [bls_map e2] at rl
    rw [rl.bls] at hq
    exact cr_all cl.calm pins s σ H _ us Q I r ⟨p, bs, rfl, hq, ok1 sr h (.bl _)⟩
theorem ca_any (cl : Cl X k) : CallA κ X (.builtin "any") gAny := fun W tk pins s σ H xs us Q I r hh => by
  obtain ⟨σ0, ι, μ, as, sr, rl, h⟩ := hh
  unfold gAny at h
  split at h <;> first | exact False.elim h | skip
  split at h <;> first | exact False.elim h | skip
  split at h <;> first | exact False.elim h | skip
  rename_i x _ xs e1 _ bs e2
  cases rl with
  | cons r1 r2 =>
    cases r2
    obtain ⟨p, vs, rfl, hq, rl⟩ := ls_rel sr r1 e1
    rw [bls_map e2] at rl
    rw [rl.bls] at hq
    exact cr_any cl.calm pins s σ H _ us Q I r ⟨p, bs, rfl, hq, ok1 sr h (.bl _)⟩

def gTuple : Fn := fun as μ => match as with
  | [x] => match seqOf μ x with
    | some xs => .ok (.tup xs) μ
    | none => .bad
  | _ => .bad
theorem ca_tuple : CallA κ X (.type "tuple") gTuple := fun W tk pins s σ H xs us Q I r hh => by
  obtain ⟨σ0, ι, μ, as, sr, rl, h⟩ := hh
  unfold gTuple at h
  split at h <;> first | exact False.elim h | skip
  split at h <;> first | exact False.elim h | skip
  rename_i x _ xs e1
  cases rl with
  | cons r1 r2 =>
    cases r2
    obtain ⟨p, vs, rfl, hq, rl⟩ := seqOf_rel sr r1 e1
    refine call_tuple_of pins s σ H _ us Q I r ⟨p, vs, rfl, ?_⟩
    rcases hq with hq | hq
    · exact .inl ⟨hq, fun l hn => okT sr h rl hn⟩
    · exact .inr ⟨hq, ok1 sr h (.tup hq rl)⟩
def gList : FnN := fun as μ => match as with
  | [x] => match seqOf μ x with
    | some xs => .ok xs μ
    | none => .bad
  | _ => .bad
theorem cn_list : CallN κ X (.type "list") gList := fun W tk pins s σ H xs us Q I r hh => by
  obtain ⟨σ0, ι₀, H₀, μ₀, ι, μ, as, sr₀, m, sr, rl, h⟩ := hh
  unfold gList at h
  split at h <;> first | exact False.elim h | skip
  split at h <;> first | exact False.elim h | skip
  rename_i x _ xs e1
  cases rl with
  | cons r1 r2 =>
    cases r2
    obtain ⟨p, vs, rfl, hq, rl⟩ := seqOf_rel sr r1 e1
    exact call_list_of pins s σ H _ us Q I r ⟨p, vs, rfl, hq, fun l hn => okNew sr₀ sr m h rl hn⟩
end
end Lr


namespace Lr
open PySem PySem.Spec L2
open PyProof.Rows hiding St


def kindA (μ : Store) : AV → Option String
  | .non => some "NoneType"
  | .bl _ => some "bool"
  | .int _ => some "int"
  | .str _ => some "str"
  | .tup _ => some "tuple"
  | .lst _ => some "list"
  | .dct _ => some "dict"
  | .loc n => match μ[n]? with
    | some (.lst _) => some "list"
    | _ => none
  | _ => none
def isiB (k n : String) : Option Bool := if ["int", "bool", "str", "tuple", "list", "dict"].contains n then some (k == n || (k == "bool" && n == "int")) else none
theorem isiB_ok : ∀ k ∈ ["NoneType", "bool", "int", "str", "tuple", "list", "dict"], ∀ n ∈ ["int", "bool", "str", "tuple", "list", "dict"], kitB k n = some (k == n || (k == "bool" && n == "int")) := by decide +kernel
def gIsi : Fn := fun as μ => match as with
  | [x, .ty n] => match kindA μ x with
    | some k => match isiB k n with
      | some b => .ok (.bl b) μ
      | none => .bad
    | none => .bad
  | _ => .bad
section
variable {κ : Nat → Addr} {X : Cx} {a b c e : Expr} {ra rb rc r : AE} {pos p2 : Pos} {g g' : G2} {k : Nat} {es : List Expr} {rs : AA}
theorem DE.tyname {x : Str} {n : String} {pos : Pos} (hg : Gl X x) (hm : X.mg x = none) (hv : bootBuiltins x = some (.type n)) (hn : x ≠ "__name__" := by decide) (hd : (x == ("__debug__" : Str)) = false := by decide) : DE κ X (.Name x pos) (eC (.ty n)) :=
  .con (pe_bltn (v := .ty n) hg hm hv rfl hn hd) fun _ _ => .ty n
theorem kind_mem {μ : Store} {x : AV} {k : String} (e : kindA μ x = some k) : k ∈ ["NoneType", "bool", "int", "str", "tuple", "list", "dict"] := by
  cases x <;> simp only [kindA] at e <;> first | (cases e; done) | (cases e; decide) | skip
  · split at e
    · cases e; decide
    · cases e
theorem kit_kind {pins : List (Addr × Obj)} {σ : St} {H : Hp} {s : Shared} {ι : List Addr} {μ : Store} (I : Inv X pins σ H s) (sr : SR X.K κ ι μ H) {x : AV} {v : V} {u : Value} {T : String} (r : Rel X.K κ ι H x v) (ru : RelV v u) (e : kindA μ x = some T) :
    ∃ P : Heap → Prop, PySem.W.KitX X.K u (.type T) P ∧ P s.heap ∧ u ≠ .builtin "__main__.__loader__#opaque" := by
  cases r with
  | non => cases ru; cases e; exact ⟨_, PySem.W.kitx_none, True.intro, fun z => nomatch z⟩
  | bl k => cases ru; cases e; exact ⟨_, PySem.W.kitx_bool, True.intro, fun z => nomatch z⟩
  | int i => obtain ⟨t, rfl⟩ := ru; cases e; exact ⟨_, PySem.W.kitx_int, True.intro, fun z => nomatch z⟩
  | str y => obtain ⟨t, rfl⟩ := ru; cases e; exact ⟨_, PySem.W.kitx_str, True.intro, fun z => nomatch z⟩
  | tup h r =>
    cases ru; cases e
    obtain ⟨_, _, ⟨o, h1, h2, _⟩, _⟩ := I.tuple h
    exact ⟨_, PySem.W.kitx_tuple, ⟨o, h1, h2⟩, fun z => nomatch z⟩
  | lst h r =>
    cases ru; cases e
    obtain ⟨_, _, ⟨o, n, h1, h2, _⟩, _⟩ := I.list h.sq
    exact ⟨_, PySem.W.kitx_list, ⟨o, h1, h2⟩, fun z => nomatch z⟩
  | dct h ho hd hn r =>
    cases ru; cases e
    obtain ⟨h1, _⟩ := I.hok _ _ h
    exact ⟨_, PySem.W.kitx_dict, ⟨_, h1, ho.1⟩, fun z => nomatch z⟩
  | loc h =>
    rename_i n p
    cases ru
    simp only [kindA] at e
    split at e
    · cases e
      rename_i xs q
      obtain ⟨vs, e1, r1⟩ := sr.obj n _ p q h
      obtain ⟨_, _, ⟨o, n, h1, h2, _⟩, _⟩ := I.list (.inl (.inl e1))
      exact ⟨_, PySem.W.kitx_list, ⟨o, h1, h2⟩, fun z => nomatch z⟩
    · cases e
  | _ => cases e
theorem ca_isi : CallA κ X (.builtin "isinstance") gIsi := fun W tk pins s σ H xs us Q I r hh => by
  obtain ⟨σ0, ι, μ, as, sr, rl, h⟩ := hh
  unfold gIsi at h
  split at h <;> first | exact False.elim h | skip
  split at h <;> first | exact False.elim h | skip
  split at h <;> first | exact False.elim h | skip
  rename_i x n _ T eT _ b eb
  cases rl with
  | cons r1 r2 =>
    cases r2 with
    | cons r2 r3 =>
      cases r3
      cases r2
      obtain ⟨u1, u2, rfl, q1, q2⟩ := vals2 r
      cases (show u2 = Value.type n from q2)
      obtain ⟨P, Z, hp, hx⟩ := kit_kind I sr r1 q1 eT
      have hk : PySem.W.kitOne X.K (.type T) (.type n) = some b := by
        refine kit_ty ?_
        unfold isiB at eb
        split at eb
        · rename_i hc
          rw [isiB_ok T (kind_mem eT) n (by simpa using hc)]
          exact eb
        · cases eb
      exact PySem.W.kia_one Z I.kIn hp hk hx fun tk => ⟨.bl b, H, I.tok tk, rfl, ok1 sr h (.bl _)⟩


mutual
def toD : AV → Option PyData
  | .non => some .none
  | .bl b => some (.bool b)
  | .int i => some (.int i)
  | .str x => some (.str x)
  | .tup xs => (toDL xs).map .tuple
  | .lst xs => (toDL xs).map .list
  | .dct kvs => (toDD kvs).map .dict
  | .loc _ => none | .obj _ => none | .scr _ => none | .ty _ => none
def toDL : List AV → Option (List PyData)
  | [] => some []
  | x :: xs => match toD x, toDL xs with
    | some d, some ds => some (d :: ds)
    | _, _ => none
def toDD : List (AV × AV) → Option (List (PyData × PyData))
  | [] => some []
  | (x, y) :: xs => match toD x, toD y, toDD xs with
    | some d, some e, some ds => some ((d, e) :: ds)
    | _, _, _ => none
end
mutual
theorem reads_of {pins : List (Addr × Obj)} {σ : St} {H : Hp} {s : Shared} {ι : List Addr} (I : Inv X pins σ H s) : ∀ (x : AV) (v : V) (u : Value) (d : PyData), Rel X.K κ ι H x v → RelV v u → toD x = some d → ∃ as, Reads s.heap u d as ∧ sysModules ∉ as
  | .non, v, u, d, r, ru, e => by cases r; cases ru; cases e; exact ⟨_, .none, by simp⟩
  | .bl b, v, u, d, r, ru, e => by cases r; cases ru; cases e; exact ⟨_, .bool b, by simp⟩
  | .int i, v, u, d, r, ru, e => by cases r; obtain ⟨t, rfl⟩ := ru; cases e; exact ⟨_, .int i t, by simp⟩
  | .str y, v, u, d, r, ru, e => by cases r; obtain ⟨t, rfl⟩ := ru; cases e; exact ⟨_, .str y t, by simp⟩
  | .tup xs, v, u, d, r, ru, e => by
    cases r with
    | tup h r =>
      cases ru
      simp only [toD, Option.map_eq_some_iff] at e
      obtain ⟨ds, e1, rfl⟩ := e
      obtain ⟨its, rv, ⟨o, h1, h2, n, h3⟩, _⟩ := I.tuple h
      obtain ⟨as, q, nm⟩ := reads_ofL I xs _ its ds r rv e1
      exact ⟨as, .tuple h1 h2 h3 q, nm⟩
  | .lst xs, v, u, d, r, ru, e => by
    cases r with
    | lst h r =>
      cases ru
      simp only [toD, Option.map_eq_some_iff] at e
      obtain ⟨ds, e1, rfl⟩ := e
      obtain ⟨its, rv, ⟨o, n, h1, h2, _, h3⟩, _⟩ := I.list h.sq
      obtain ⟨as, q, nm⟩ := reads_ofL I xs _ its ds r rv e1
      obtain ⟨_, _, hn⟩ := h
      exact ⟨_, .list h1 h2 h3 q, by simp only [List.mem_cons, not_or]; exact ⟨fun z => hn z.symm, nm⟩⟩
  | .dct xs, v, u, d, r, ru, e => by
    cases r with
    | dct h ho hd hn r =>
      cases ru
      simp only [toD, Option.map_eq_some_iff] at e
      obtain ⟨ds, e1, rfl⟩ := e
      obtain ⟨h1, _⟩ := I.hok _ _ h
      obtain ⟨as, bs, q1, q2, n1, n2⟩ := reads_ofD I xs _ ds r e1
      refine ⟨_, .dict h1 ho.1 hd q1 q2, ?_⟩
      simp only [List.cons_append, List.mem_cons, List.mem_append, not_or]
      exact ⟨fun z => hn z.symm, n1, n2⟩
  | .loc _, _, _, _, _, _, e => by cases e
  | .obj _, _, _, _, _, _, e => by cases e
  | .scr _, _, _, _, _, _, e => by cases e
  | .ty _, _, _, _, _, _, e => by cases e
theorem reads_ofL {pins : List (Addr × Obj)} {σ : St} {H : Hp} {s : Shared} {ι : List Addr} (I : Inv X pins σ H s) : ∀ (xs : List AV) (vs : List V) (us : List Value) (ds : List PyData), RelL X.K κ ι H xs vs → Vals vs us → toDL xs = some ds → ∃ as, ReadsAll s.heap us ds as ∧ sysModules ∉ as
  | [], vs, us, ds, r, rv, e => by cases r; cases rv; cases e; exact ⟨_, .nil, by simp⟩
  | x :: xs, vs, us, ds, r, rv, e => by
    cases r with
    | cons r1 r2 =>
      cases rv with
      | cons v1 v2 =>
        unfold toDL at e
        cases q1 : toD x with
        | none => rw [q1] at e; cases e
        | some d =>
          cases q2 : toDL xs with
          | none => rw [q1, q2] at e; cases e
          | some ds' =>
            rw [q1, q2] at e
            cases e
            obtain ⟨as, h1, n1⟩ := reads_of I x _ _ d r1 v1 q1
            obtain ⟨bs, h2, n2⟩ := reads_ofL I xs _ _ ds' r2 v2 q2
            exact ⟨_, .cons h1 h2, by simp only [List.mem_append, not_or]; exact ⟨n1, n2⟩⟩
theorem reads_ofD {pins : List (Addr × Obj)} {σ : St} {H : Hp} {s : Shared} {ι : List Addr} (I : Inv X pins σ H s) : ∀ (xs : List (AV × AV)) (es : List DictEntry) (ds : List (PyData × PyData)), RelD X.K κ ι H xs es → toDD xs = some ds →
    ∃ as bs, ReadsAll s.heap (es.map (·.key)) (ds.map (·.1)) as ∧ ReadsAll s.heap (es.map (·.val)) (ds.map (·.2)) bs ∧ sysModules ∉ as ∧ sysModules ∉ bs
  | [], es, ds, r, e => by cases r; cases e; exact ⟨_, _, .nil, .nil, by simp, by simp⟩
  | (x, y) :: xs, es, ds, r, e => by
    cases r with
    | cons r1 v1 r2 v2 r3 =>
      unfold toDD at e
      cases q1 : toD x with
      | none => rw [q1] at e; cases e
      | some d =>
        cases q2 : toD y with
        | none => rw [q1, q2] at e; cases e
        | some d2 =>
          cases q3 : toDD xs with
          | none => rw [q1, q2, q3] at e; cases e
          | some ds' =>
            rw [q1, q2, q3] at e
            cases e
            obtain ⟨as, h1, n1⟩ := reads_of I x _ _ d r1 v1 q1
            obtain ⟨bs, h2, n2⟩ := reads_of I y _ _ d2 r2 v2 q2
            obtain ⟨cs, cs2, h3, h4, n3, n4⟩ := reads_ofD I xs _ ds' r3 q3
            exact ⟨_, _, .cons h1 h3, .cons h2 h4, by simp only [List.mem_append, not_or]; exact ⟨n1, n3⟩, by simp only [List.mem_append, not_or]; exact ⟨n2, n4⟩⟩
end

def toDM (μ : Store) (x : AV) : Option PyData := match toD x with
  | some d => some d
  | none => match lsOf μ x with
    | some xs => (toDL xs).map .list
    | none => none
def repOk (d : PyData) : Bool := d.showable && decide (d.shown.length ≤ 16777216) && decide (d.depth ≤ 150)
def gRepr : Fn := fun as μ => match as with
  | [x] => match toD x with
    | some d => if repOk d then .ok (.str d.shown) μ else .bad
    | none => .bad
  | _ => .bad
theorem ca_repr (cl : Cl X k) : CallA κ X (.builtin "repr") gRepr := fun W tk pins s σ H xs us Q I r hh => by
  obtain ⟨σ0, ι, μ, as, sr, rl, h⟩ := hh
  unfold gRepr at h
  split at h <;> first | exact False.elim h | skip
  split at h <;> first | exact False.elim h | skip
  rename_i x _ d ed
  by_cases hz : repOk d = true
  · rw [if_pos hz] at h
    unfold repOk at hz
    simp only [Bool.and_eq_true, decide_eq_true_eq] at hz
    obtain ⟨⟨hs, hl⟩, hd⟩ := hz
    cases rl with
    | cons r1 r2 =>
      cases r2
      rename_i v
      obtain ⟨u, rfl, ru⟩ := r.one
      obtain ⟨as, rd, nm⟩ := reads_of I x v u d r1 ru ed
      have hu := cl.room.un
      have hl2 : d.shown.length ≤ sizeLine := by rw [line16]; exact hl
      have q := ok1 sr h (.str d.shown)
      cases rd with
      | none => exact PySem.P.repr_of_none ⟨.str _, H, I.tok _, ⟨_, rfl⟩, q⟩
      | bool b => exact PySem.P.repr_of_bool ⟨.str _, H, I.tok _, ⟨_, rfl⟩, q⟩
      | int i t => exact PySem.P.repr_of_int (by simpa [PyData.showable] using hs) ⟨.str _, H, I.tok _, ⟨_, rfl⟩, q⟩
      | str y t => exact PySem.P.repr_of_str ⟨.str _, H, I.tok _, ⟨_, rfl⟩, q⟩ hl2
      | list h1 h2 h3 h4 => exact PySem.repr_of_reads' (.list h1 h2 h3 h4) hs (fun _ => nm) cl.gd (by omega) (fun _ _ e => e) (fun h' t tk hk => ⟨.str _, H, I.kept hk, ⟨_, rfl⟩, q⟩) hl2
      | tuple h1 h2 h3 h4 => exact PySem.repr_of_reads' (.tuple h1 h2 h3 h4) hs (fun _ => nm) cl.gd (by omega) (fun _ _ e => e) (fun h' t tk hk => ⟨.str _, H, I.kept hk, ⟨_, rfl⟩, q⟩) hl2
      | dict h1 h2 h3 h4 h5 => exact PySem.repr_of_reads' (.dict h1 h2 h3 h4 h5) hs (fun _ => nm) cl.gd (by omega) (fun _ _ e => e) (fun h' t tk hk => ⟨.str _, H, I.kept hk, ⟨_, rfl⟩, q⟩) hl2
  · rw [if_neg hz] at h
    exact False.elim h
end
end Lr


namespace Lr
open PySem PySem.Spec L2
open PyProof.Rows hiding St


def sNil : AS := fun ρ μ => .nx ρ μ
def sSeq (a b : AS) : AS := fun ρ μ => match a ρ μ with
  | .nx ρ1 μ1 => b ρ1 μ1
  | o => o
def sExpr (r : AE) : AS := fun ρ μ => (r ρ μ).out ρ fun _ μ1 => .nx ρ μ1
def sRet (r : AE) : AS := fun ρ μ => (r ρ μ).out ρ fun v μ1 => .rt v μ1
def sRetN : AS := fun _ μ => .rt .non μ
def sIf (t : AT) (a b : AS) : AS := fun ρ μ => (t ρ μ).out ρ fun k μ1 => if k then a ρ μ1 else b ρ μ1
def sBreak : AS := fun ρ μ => .bk ρ μ
def sCont : AS := fun ρ μ => .ct ρ μ
def sNever : AS := fun _ _ => .bad
def sSet (i : Nat) (r : AE) : AS := fun ρ μ => (r ρ μ).out ρ fun v μ1 => .nx (ρ.set i (some v)) μ1
section
variable {κ : Nat → Addr} {X : Cx} {a b c e : Expr} {ra rb rc r : AE} {pos p2 pos' : Pos} {g g' : G2} {k : Nat} {es : List Expr} {rs : AA} {st : Stmt} {sts : List Stmt} {s1 s2 : AS} {ta : AT}
theorem RelS.set {K : PySem.W.Frag} {ι : List Addr} {H : Hp} {ρ : Loc} {σ : St} {i : Nat} {v : AV} {x : V} (rl : RelS K κ ι H ρ σ) (r : Rel K κ ι H v x) : RelS K κ ι H (ρ.set i (some v)) (σ.set i (some x)) := by
  refine ⟨by simp [rl.1], fun j w e => ?_⟩
  by_cases hj : i = j
  · subst hj
    have hi : i < ρ.length := by
      have := (List.getElem?_eq_some_iff.mp e).1
      simpa using this
    rw [List.getElem?_set_self hi] at e
    cases e
    exact ⟨x, List.getElem?_set_self (by rw [← rl.1]; exact hi), r⟩
  · rw [List.getElem?_set_ne hj] at e ⊢
    exact rl.2 j w e
theorem DSs.nil : DSs κ X [] sNil := fun W _ => ⟨_, pss_nil, fun D σ H ι ρ μ sr rl h => h ι H σ (List.prefix_refl _) (HM.refl _) sr rl⟩
theorem DSs.one (h : DS κ X st s1) : DSs κ X [st] s1 := fun W tk => let ⟨t, p, i⟩ := h W tk; ⟨t, pss_one p, i⟩
theorem DSs.cons (h1 : DS κ X st s1) (h2 : DSs κ X sts s2) : DSs κ X (st :: sts) (sSeq s1 s2) := fun W tk => by
  obtain ⟨t, p, i⟩ := h1 W tk
  obtain ⟨u, q, j⟩ := h2 W tk
  refine ⟨_, pss_cons p q, fun D σ H ι ρ μ sr rl h => ?_⟩
  refine i _ σ H ι ρ μ sr rl ?_
  unfold sSeq at h
  cases e : s1 ρ μ with
  | nx ρ1 μ1 =>
    rw [e] at h
    exact fun ι1 H1 σ1 p1 m1 sr1 rl1 => j D σ1 H1 ι1 ρ1 μ1 sr1 rl1 (PO'.mono p1 m1 h)
  | rt v μ1 => rw [e] at h; exact h
  | bk ρ1 μ1 => rw [e] at h; exact h
  | ct ρ1 μ1 => rw [e] at h; exact h
  | ex c v ρ1 μ1 => rw [e] at h; exact h
  | bad => rw [e] at h; exact h
theorem DS.expr (ha : DE κ X a ra) (hs : swapsWith a none pos.line X.env = pure false := by rfl) : DS κ X (.Expr a pos) (sExpr ra) := fun W tk => by
  obtain ⟨t, p, i⟩ := ha W tk
  refine ⟨_, ps_expr p hs, fun D σ H ι ρ μ sr rl h => ?_⟩
  exact i σ H _ ι ρ μ sr rl (PO'.bind rl h fun v μ1 ι1 H1 p1 m1 sr1 h1 x rx => h1 ι1 H1 σ (List.prefix_refl _) (HM.refl _) sr1 (rl.mono p1 m1))
theorem DS.ret (ha : DE κ X a ra) : DS κ X (.Return (some a) pos) (sRet ra) := fun W tk => by
  obtain ⟨t, p, i⟩ := ha W tk
  refine ⟨_, ps_ret p, fun D σ H ι ρ μ sr rl h => ?_⟩
  exact i σ H _ ι ρ μ sr rl (PO'.bind rl h fun v μ1 ι1 H1 p1 m1 sr1 h1 x rx => h1 ι1 H1 x (List.prefix_refl _) (HM.refl _) sr1 rx)
theorem DS.retN : DS κ X (.Return none pos) sRetN := fun W tk => ⟨_, ps_retN, fun D σ H ι ρ μ sr rl h => h ι H .non (List.prefix_refl _) (HM.refl _) sr .non⟩
theorem DS.pass : DS κ X (.Pass pos) sNil := fun W tk => ⟨_, ps_pass, fun D σ H ι ρ μ sr rl h => h ι H σ (List.prefix_refl _) (HM.refl _) sr rl⟩
theorem DS.brk : DS κ X (.Break pos) sBreak := fun W tk => ⟨_, ps_break, fun D σ H ι ρ μ sr rl h => h ι H σ (List.prefix_refl _) (HM.refl _) sr rl⟩
theorem DS.cont : DS κ X (.Continue pos) sCont := fun W tk => ⟨_, ps_continue, fun D σ H ι ρ μ sr rl h => h ι H σ (List.prefix_refl _) (HM.refl _) sr rl⟩
theorem DS.never : DS κ X st sNever := fun W tk => ⟨_, ps_never, fun D σ H ι ρ μ sr rl h => False.elim h⟩
theorem DSs.never : DSs κ X sts sNever := fun W tk => ⟨_, pss_never, fun D σ H ι ρ μ sr rl h => False.elim h⟩
theorem DS.ifs {t : Expr} {x y : List Stmt} (ht : DT κ X t ta) (h1 : DSs κ X x s1) (h2 : DSs κ X y s2) : DS κ X (.If t x y pos) (sIf ta s1 s2) := fun W tk => by
  obtain ⟨t0, p0, i0⟩ := ht W tk
  obtain ⟨t1, p1, i1⟩ := h1 W tk
  obtain ⟨t2, p2, i2⟩ := h2 W tk
  refine ⟨_, ps_if p0 p1 p2, fun D σ H ι ρ μ sr rl h => ?_⟩
  refine i0 σ H _ ι ρ μ sr rl (PO'.bind rl h fun b μ1 ι1 H1 p1 m1 sr1 h1 => ?_)
  cases b with
  | true => exact iteT (i1 D σ H1 ι1 ρ μ1 sr1 (rl.mono p1 m1) h1)
  | false => exact iteF (i2 D σ H1 ι1 ρ μ1 sr1 (rl.mono p1 m1) h1)
theorem DS.set {i : Nat} {x : Str} (hN : X.N.Nodup) (hi : X.N[i]? = some x) (hx : L2.Loc X.env.scope x) (ha : DE κ X a ra) (hs : swapsWith a (some (.Name x pos')) pos.line X.env = pure false := by rfl)
    (hf : X.fn x = true ∨ X.env.scope.names.lookup x = some .local := by first | exact .inl rfl | exact .inr rfl | assumption) : DS κ X (.Assign [.Name x pos'] a pos) (sSet i ra) := fun W tk => by
  obtain ⟨t, p, j⟩ := ha W tk
  refine ⟨_, ps_set hN hi hx p hs hf, fun D σ H ι ρ μ sr rl h => ?_⟩
  exact j σ H _ ι ρ μ sr rl (PO'.bind rl h fun v μ1 ι1 H1 p1 m1 sr1 h1 x rx => h1 ι1 H1 _ (List.prefix_refl _) (HM.refl _) sr1 ((rl.mono p1 m1).set rx))

def sAug (i : Nat) (g : G2) (r : AE) : AS := fun ρ μ => match ρ[i]? with
  | some (some x) => (r ρ μ).out ρ fun y μ1 => (g x y μ1).out ρ fun z μ2 => .nx (ρ.set i (some z)) μ2
  | _ => .bad
def gIAdd : G2 := fun x y μ => match x, y with
  | .int i, .int j => .ok (.int (i + j)) μ
  | _, _ => .bad
def gISub : G2 := fun x y μ => match x, y with
  | .int i, .int j => .ok (.int (i - j)) μ
  | _, _ => .bad
theorem ip_gAdd {W : WX} : PIp X .Add (rA X.K κ W gIAdd) := by
  intro pins s σ H x y v u Q I rx ry hh
  obtain ⟨σ0, ι, μ, a, b, sr, ra, rb, h⟩ := hh
  cases a <;> cases b <;> first | exact False.elim h | skip
  cases ra; cases rb
  exact ip_add pins s σ H _ _ v u Q I rx ry ⟨_, _, rfl, rfl, ok1 sr h (.int _)⟩
theorem ip_gSub {W : WX} : PIp X .Sub (rA X.K κ W gISub) := by
  intro pins s σ H x y v u Q I rx ry hh
  obtain ⟨σ0, ι, μ, a, b, sr, ra, rb, h⟩ := hh
  cases a <;> cases b <;> first | exact False.elim h | skip
  cases ra; cases rb
  exact ip_sub pins s σ H _ _ v u Q I rx ry ⟨_, _, rfl, rfl, ok1 sr h (.int _)⟩
theorem DS.aug {i : Nat} {x : Str} {op : Operator} (hN : X.N.Nodup) (hi : X.N[i]? = some x) (hx : L2.Loc X.env.scope x) (ho : ∀ W, PIp X op (rA X.K κ W g)) (ha : DE κ X a ra)
    (hf : X.fn x = true ∨ X.env.scope.names.lookup x = some .local := by first | exact .inl rfl | exact .inr rfl | assumption) : DS κ X (.AugAssign (.Name x pos') op a pos) (sAug i g ra) := fun W tk => by
  obtain ⟨t, p, j⟩ := ha W tk
  refine ⟨_, ps_aug hN hi hx p (ho W) hf, fun D σ H ι ρ μ sr rl h => ?_⟩
  unfold sAug at h
  split at h
  · rename_i v ev
    obtain ⟨xv, e1, r1⟩ := rl.2 i v ev
    refine ⟨xv, e1, j σ H _ ι ρ μ sr rl (PO'.bind rl h fun y μ1 ι1 H1 p1 m1 sr1 h1 yv ry => ?_)⟩
    refine ⟨σ, ι1, μ1, v, y, sr1, r1.mono p1 m1, ry, PO'.bind (rl.mono p1 m1) h1 fun z μ2 ι2 H2 p2 m2 sr2 h2 zv rz => ?_⟩
    exact h2 ι2 H2 _ (List.prefix_refl _) (HM.refl _) sr2 (((rl.mono p1 m1).mono p2 m2).set rz)
  · exact False.elim h


abbrev AG := AV → Loc → Option Loc
def gNm (i : Nat) : AG := fun v ρ => some (ρ.set i (some v))
abbrev AGs := List AV → Loc → Option Loc
def gN0 : AGs := fun vs ρ => match vs with
  | [] => some ρ
  | _ => none
def gN1 (g : AG) (gs : AGs) : AGs := fun vs ρ => match vs with
  | v :: r => match g v ρ with
    | some ρ1 => gs r ρ1
    | none => none
  | [] => none
def gTp (gs : AGs) : AG := fun v ρ => match v with
  | .tup xs => gs xs ρ
  | _ => none
def ImG (K : PySem.W.Frag) (κ : Nat → Addr) (is : List Nat) (t : TG) (g : AG) : Prop := ∀ (v : AV) (x : V) (σ : St) (H : Hp) (Q : St → Hp → Prop) (ι : List Addr) (ρ ρ' : Loc), RelS K κ ι H ρ σ → Rel K κ ι H v x → g v ρ = some ρ' →
  (∀ σ', RelS K κ ι H ρ' σ' → (∀ vs : List Nat, (∀ i ∈ is, i ∈ vs) → wipe σ' vs = wipe σ vs) → Q σ' H) → t x σ H Q
def ImGs (K : PySem.W.Frag) (κ : Nat → Addr) (is : List Nat) (t : TGs) (g : AGs) : Prop := ∀ (v : List AV) (x : List V) (σ : St) (H : Hp) (Q : St → Hp → Prop) (ι : List Addr) (ρ ρ' : Loc), RelS K κ ι H ρ σ → RelL K κ ι H v x → g v ρ = some ρ' →
  (∀ σ', RelS K κ ι H ρ' σ' → (∀ vs : List Nat, (∀ i ∈ is, i ∈ vs) → wipe σ' vs = wipe σ vs) → Q σ' H) → t x σ H Q
def DG (κ : Nat → Addr) (X : Cx) (e : Expr) (is : List Nat) (g : AG) : Prop := ∃ t, L2.PG X e t ∧ ImG X.K κ is t g
def DGs (κ : Nat → Addr) (X : Cx) (e : List Expr) (is : List Nat) (g : AGs) : Prop := ∃ t, PGs X e t ∧ ImGs X.K κ is t g
theorem wipe_set {σ : St} {i : Nat} {x : Option V} : ∀ {vs : List Nat}, i ∈ vs → wipe (σ.set i x) vs = wipe σ vs
  | [], h => by cases h
  | v :: vs, h => by
    unfold wipe
    by_cases e : i ∈ vs
    · rw [wipe_set e]
    · have ei : i = v := by
        rcases List.mem_cons.mp h with h | h
        · exact h
        · exact absurd h e
      subst ei
      have go : ∀ {ws : List Nat} (τ : St), i ∉ ws → wipe (τ.set i x) ws = (wipe τ ws).set i x := by
        intro ws
        induction ws with
        | nil => intro τ _; rfl
        | cons w ws ih =>
          intro τ hn
          simp only [List.mem_cons, not_or] at hn
          unfold wipe
          rw [ih τ hn.2, List.set_comm _ _ hn.1]
      rw [go σ e, List.set_set]
theorem DG.name {i : Nat} {x : Str} (hN : X.N.Nodup) (hi : X.N[i]? = some x) (hx : L2.Loc X.env.scope x) (hf : X.fn x = true ∨ X.env.scope.names.lookup x = some .local := by first | exact .inl rfl | exact .inr rfl | assumption) : DG κ X (.Name x pos) [i] (gNm i) :=
  ⟨_, pg_name hN hi hx hf, fun v x σ H Q ι ρ ρ' rl r e h => by
    cases e
    exact h _ (rl.set r) fun vs hv => wipe_set (hv i (by simp))⟩
theorem DGs.nil : DGs κ X [] [] gN0 := ⟨_, pgs_nil, fun v x σ H Q ι ρ ρ' rl r e h => by
  cases r with
  | nil =>
    cases e
    exact ⟨rfl, h σ rl fun _ _ => rfl⟩
  | cons _ _ => cases e⟩
theorem DGs.cons {is js : List Nat} {g : AG} {gs : AGs} (h1 : DG κ X e is g) (h2 : DGs κ X es js gs) (hs : (assignEach (e :: es) X.env).map (·.2) = assign e X.env :: (assignEach es X.env).map (·.2) := by rfl) : DGs κ X (e :: es) (is ++ js) (gN1 g gs) := by
  obtain ⟨t, p, i⟩ := h1
  obtain ⟨u, q, j⟩ := h2
  refine ⟨_, pgs_cons p q hs, fun v x σ H Q ι ρ ρ' rl r e h => ?_⟩
  cases r with
  | nil => cases e
  | cons r1 r2 =>
    rename_i v1 x1 vs xs
    simp only [gN1] at e
    cases e1 : g v1 ρ with
    | none => rw [e1] at e; cases e
    | some ρ1 =>
      rw [e1] at e
      refine ⟨x1, xs, rfl, i v1 x1 σ H _ ι ρ ρ1 rl r1 e1 fun σ1 rl1 w1 => j vs xs σ1 H _ ι ρ1 ρ' rl1 r2 e fun σ2 rl2 w2 => h σ2 rl2 fun ws hw => ?_⟩
      rw [w2 ws fun i hi => hw i (List.mem_append_right _ hi), w1 ws fun i hi => hw i (List.mem_append_left _ hi)]
theorem gN_len : ∀ {gs : AGs} {vs : List AV} {ρ ρ' : Loc} {n : Nat}, (∀ vs ρ ρ', gs vs ρ = some ρ' → vs.length = n) → gs vs ρ = some ρ' → vs.length = n := fun h e => h _ _ _ e
theorem DG.tup {is : List Nat} {gs : AGs} {n : Nat} {k : Nat} (hc : X.calm = true) (h : DGs κ X es is gs) (hl : ∀ vs ρ ρ', gs vs ρ = some ρ' → vs.length = n) (hn : (assignEach es X.env).length = n := by rfl) (hst : (assignEach es X.env).findIdx? (·.1) = none := by rfl) :
    DG κ X (.Tuple es k pos) is (gTp gs) := by
  obtain ⟨t, p, i⟩ := h
  refine ⟨_, pg_tup hc p hn hst, fun v x σ H Q ι ρ ρ' rl r e h => ?_⟩
  cases r with
  | tup hq r =>
    exact ⟨_, _, rfl, hq, by rw [← r.length]; exact hl _ _ _ e, i _ _ σ H Q ι ρ ρ' rl r e h⟩
  | _ => cases e
theorem gl0 : ∀ vs ρ ρ', gN0 vs ρ = some ρ' → vs.length = 0 := fun vs ρ ρ' e => by
  cases vs with
  | nil => rfl
  | cons _ _ => cases e
theorem gl1 {g : AG} {gs : AGs} {n : Nat} (h : ∀ vs ρ ρ', gs vs ρ = some ρ' → vs.length = n) : ∀ vs ρ ρ', gN1 g gs vs ρ = some ρ' → vs.length = n + 1 := fun vs ρ ρ' e => by
  cases vs with
  | nil => cases e
  | cons v r =>
    simp only [gN1] at e
    split at e
    · exact congrArg (· + 1) (h _ _ _ e)
    · cases e

def sAsg (r : AE) (g : AG) : AS := fun ρ μ => (r ρ μ).out ρ fun v μ1 => match g v ρ with
  | some ρ1 => .nx ρ1 μ1
  | none => .bad
theorem DS.asg {tg : Expr} {is : List Nat} {g : AG} (ha : DE κ X a ra) (hg : DG κ X tg is g) (hs : swapsWithSole [tg] a pos.line X.env = pure false := by rfl) (hw : swappedStores [tg] a X.env = pure none := by rfl)
    (h1 : (assignEach [tg] X.env).map (·.2) = [assign tg X.env] := by rfl) : DS κ X (.Assign [tg] a pos) (sAsg ra g) := fun W tk => by
  obtain ⟨t, p, j⟩ := ha W tk
  obtain ⟨u, q, l⟩ := hg
  refine ⟨_, ps_asg p q hs hw h1, fun D σ H ι ρ μ sr rl h => ?_⟩
  refine j σ H _ ι ρ μ sr rl (PO'.bind rl h fun v μ1 ι1 H1 p1 m1 sr1 h1 x rx => ?_)
  cases e : g v ρ with
  | none => rw [e] at h1; exact False.elim h1
  | some ρ1 =>
    rw [e] at h1
    exact l v x σ H1 _ ι1 ρ ρ1 (rl.mono p1 m1) rx e fun σ' rl' _ => h1 ι1 H1 σ' (List.prefix_refl _) (HM.refl _) sr1 rl'

def sPar (r : AA) (gs : AGs) : AS := fun ρ μ => (r ρ μ).out ρ fun vs μ1 => if vs.length ≤ 16777216 then (match gs vs ρ with
  | some ρ1 => .nx ρ1 μ1
  | none => .bad) else .bad
theorem DS.parG {ts : List Expr} {is : List Nat} {gs : AGs} {n k k2 : Nat} {pt p3 : Pos} (hc : X.calm = true) (ha : DA κ X es rs) (hg : DGs κ X ts is gs) (hl : ∀ vs ρ ρ', gs vs ρ = some ρ' → vs.length = n)
    (hw : swappedStores [.Tuple ts k pt] (.Tuple es k2 p3) X.env = pure none := by rfl) (hs : swapsWithSole [.Tuple ts k pt] (.Tuple es k2 p3) pos.line X.env = pure false := by rfl)
    (h1 : (assignEach [.Tuple ts k pt] X.env).map (·.2) = [assign (.Tuple ts k pt) X.env] := by rfl) (hn : (assignEach ts X.env).length = n := by rfl) (hst : (assignEach ts X.env).findIdx? (·.1) = none := by rfl) :
    DS κ X (.Assign [.Tuple ts k pt] (.Tuple es k2 p3) pos) (sPar rs gs) := fun W tk => by
  obtain ⟨t, p, i⟩ := DS.asg (κ := κ) (pos := pos) (DE.tup (x1 := k2) (pos := p3) ha) (DG.tup (k := k) (pos := pt) hc hg hl hn hst) hs hw h1 W tk
  refine ⟨t, p, fun D σ H ι ρ μ sr rl h => i D σ H ι ρ μ sr rl ?_⟩
  revert h
  unfold sPar sAsg eTup
  cases rs ρ μ with
  | ok vs μ1 =>
    simp only [Res.out_ok, Res.bind_ok]
    by_cases hz : vs.length ≤ 16777216
    · simp only [if_pos hz, Res.out_ok, gTp]
      exact id
    · simp only [if_neg hz, Res.out_bad]
      exact id
  | ex c v μ1 => exact id
  | bad => exact id
theorem DS.par2 {i j : Nat} {x y : Str} {px py pt : Pos} {kt k2 pt2} (hc : X.calm = true) (hN : X.N.Nodup) (hi : X.N[i]? = some x) (hj : X.N[j]? = some y) (hij : i ≠ j)
    (hx : X.env.scope.names.lookup x = some .local) (hy : X.env.scope.names.lookup y = some .local) (ha : DA κ X [a, b] rs)
    (hw : swappedStores [.Tuple [.Name x px, .Name y py] kt pt] (.Tuple [a, b] k2 pt2) X.env = pure (some [x, y]))
    (hs : swapsWithSole [.Tuple [.Name x px, .Name y py] kt pt] (.Tuple [a, b] k2 pt2) pos.line X.env = pure false := by rfl) :
    DS κ X (.Assign [.Tuple [.Name x px, .Name y py] kt pt] (.Tuple [a, b] k2 pt2) pos) (sPar rs (gN1 (gNm i) (gN1 (gNm j) gN0))) := fun W tk => by
  obtain ⟨t, p, l⟩ := ha W tk
  refine ⟨_, ps_par hc hN hi hj hij hx hy p hw hs, fun D σ H ι ρ μ sr rl h => ?_⟩
  refine l σ H _ ι ρ μ sr rl (PO'.bind rl h fun vs μ1 ι1 H1 p1 m1 sr1 h1 xs rx => ?_)
  split at h1
  · match vs, rx with
    | [v, w], .cons r1 (.cons r2 .nil) => exact ⟨_, _, rfl, h1 ι1 H1 _ (List.prefix_refl _) (HM.refl _) sr1 (((rl.mono p1 m1).set r1).set r2)⟩
    | [], .nil => exact False.elim h1
    | [_], .cons _ .nil => exact False.elim h1
    | _ :: _ :: _ :: _, .cons _ (.cons _ (.cons _ _)) => exact False.elim h1
  · exact False.elim h1
theorem DS.par3 {i j l : Nat} {x y z : Str} {px py pz pt : Pos} {kt k2 pt2} (hc : X.calm = true) (hN : X.N.Nodup) (hi : X.N[i]? = some x) (hj : X.N[j]? = some y) (hl : X.N[l]? = some z) (hij : i ≠ j) (hil : i ≠ l) (hjl : j ≠ l)
    (hx : X.env.scope.names.lookup x = some .local) (hy : X.env.scope.names.lookup y = some .local) (hz : X.env.scope.names.lookup z = some .local) (ha : DA κ X [a, b, c] rs)
    (hw : swappedStores [.Tuple [.Name x px, .Name y py, .Name z pz] kt pt] (.Tuple [a, b, c] k2 pt2) X.env = pure (some [x, y, z]))
    (hs : swapsWithSole [.Tuple [.Name x px, .Name y py, .Name z pz] kt pt] (.Tuple [a, b, c] k2 pt2) pos.line X.env = pure false := by rfl) :
    DS κ X (.Assign [.Tuple [.Name x px, .Name y py, .Name z pz] kt pt] (.Tuple [a, b, c] k2 pt2) pos) (sPar rs (gN1 (gNm i) (gN1 (gNm j) (gN1 (gNm l) gN0)))) := fun W tk => by
  obtain ⟨t, p, q⟩ := ha W tk
  refine ⟨_, ps_par3 hc hN hi hj hl hij hil hjl hx hy hz p hw hs, fun D σ H ι ρ μ sr rl h => ?_⟩
  refine q σ H _ ι ρ μ sr rl (PO'.bind rl h fun vs μ1 ι1 H1 p1 m1 sr1 h1 xs rx => ?_)
  split at h1
  · match vs, rx with
    | [v, w, u], .cons r1 (.cons r2 (.cons r3 .nil)) => exact ⟨_, _, _, rfl, h1 ι1 H1 _ (List.prefix_refl _) (HM.refl _) sr1 ((((rl.mono p1 m1).set r1).set r2).set r3)⟩
    | [], .nil => exact False.elim h1
    | [_], .cons _ .nil => exact False.elim h1
    | [_, _], .cons _ (.cons _ .nil) => exact False.elim h1
    | _ :: _ :: _ :: _ :: _, .cons _ (.cons _ (.cons _ (.cons _ _))) => exact False.elim h1
  · exact False.elim h1
end
end Lr


namespace Lr
open PySem PySem.Spec L2
open PyProof.Rows hiding St

def FUEL : Nat := 1000000000000
def whileF (t : AT) (b : AS) : Nat → AS
  | 0 => fun _ _ => .bad
  | n + 1 => fun ρ μ => (t ρ μ).out ρ fun k μ1 => if k then (match b ρ μ1 with
      | .nx ρ2 μ2 => whileF t b n ρ2 μ2
      | .ct ρ2 μ2 => whileF t b n ρ2 μ2
      | .bk ρ2 μ2 => .nx ρ2 μ2
      | o => o) else .nx ρ μ1
def sWhile (t : AT) (b : AS) : AS := whileF t b FUEL

inductive Src where
  | dat (xs : List AV)
  | live (n : Nat)
def Src.at (s : Src) (i : Nat) (μ : Store) : Option (Option AV) := match s with
  | .dat xs => some xs[i]?
  | .live n => match μ[n]? with
    | some (.lst xs) => some xs[i]?
    | _ => none
abbrev AI := Loc → Store → Res Src
def forF (g : AG) (b : AS) (src : Src) : Nat → Nat → AS
  | 0, _ => fun _ _ => .bad
  | m + 1, i => fun ρ μ => match src.at i μ with
    | none => .bad
    | some none => .nx ρ μ
    | some (some v) => match g v ρ with
      | none => .bad
      | some ρ1 => match b ρ1 μ with
        | .nx ρ2 μ2 => forF g b src m (i + 1) ρ2 μ2
        | .ct ρ2 μ2 => forF g b src m (i + 1) ρ2 μ2
        | .bk ρ2 μ2 => .nx ρ2 μ2
        | o => o
def sFor (it : AI) (g : AG) (b : AS) : AS := fun ρ μ => (it ρ μ).out ρ fun src μ1 => forF g b src FUEL 0 ρ μ1

section
variable {κ : Nat → Addr} {X : Cx} {a b c e : Expr} {ra rb rc r : AE} {pos p2 pos' : Pos} {g g' : G2} {k : Nat} {es : List Expr} {rs : AA} {st : Stmt} {sts : List Stmt} {s1 s2 : AS} {ta : AT}
theorem DS.whl {c : Expr} {body : List Stmt} {t : AT} {b : AS} (hp : PassesOwn (model X.prog X.w) X.A X.env X.xe) (hc : DT κ X c t) (hb : DSs κ X body b) : DS κ X (.While c body [] pos) (sWhile t b) := fun W tk => by
  obtain ⟨t0, p0, i0⟩ := hc W tk
  obtain ⟨t1, p1, i1⟩ := hb W tk
  refine ⟨_, ps_while hp p0 p1, fun D σ H ι ρ μ sr rl h => ?_⟩
  refine ⟨fun m σ' H' => ∃ (ι' : List Addr) (ρ' : Loc) (μ' : Store), HM ι H ι' H' ∧ SR X.K κ ι' μ' H' ∧ RelS X.K κ ι' H' ρ' σ' ∧ PO' X.K κ W ι' H' D (whileF t b m ρ' μ'), ⟨FUEL, ι, ρ, μ, HM.refl _, sr, rl, h⟩, ?_⟩
  rintro m σ' H' ⟨ι', ρ', μ', hm, sr', rl', h'⟩
  cases m with
  | zero => exact False.elim h'
  | succ m =>
    refine i0 σ' H' _ ι' ρ' μ' sr' rl' (PO'.bind rl' h' fun q μ1 ι1 H1 q1 m1 sr1 h1 => ?_)
    cases q with
    | false =>
      exact iteF (h1 ι1 H1 σ' (List.prefix_refl _) (HM.refl _) sr1 (rl'.mono q1 m1))
    | true =>
      refine iteT ⟨fun σ2 H2 => ∃ (ι2 : List Addr) (ρ2 : Loc) (μ2 : Store), HM ι H ι2 H2 ∧ SR X.K κ ι2 μ2 H2 ∧ RelS X.K κ ι2 H2 ρ2 σ2 ∧ PO' X.K κ W ι2 H2 D (whileF t b m ρ2 μ2), fun σ2 H2 z => ⟨m, Nat.lt_succ_self _, z⟩, ?_⟩
      refine i1 _ σ' H1 ι1 ρ' μ1 sr1 (rl'.mono q1 m1) ?_
      simp only [if_true] at h1
      cases eb : b ρ' μ1 with
      | nx ρ2 μ2 => rw [eb] at h1; exact fun ι2 H2 σ2 q2 m2 sr2 rl2 => ⟨ι2, ρ2, μ2, (hm.trans m1).trans m2, sr2, rl2, PO'.mono q2 m2 h1⟩
      | ct ρ2 μ2 => rw [eb] at h1; exact fun ι2 H2 σ2 q2 m2 sr2 rl2 => ⟨ι2, ρ2, μ2, (hm.trans m1).trans m2, sr2, rl2, PO'.mono q2 m2 h1⟩
      | bk ρ2 μ2 => rw [eb] at h1; exact h1
      | rt v μ2 => rw [eb] at h1; exact h1
      | ex c v ρ2 μ2 => rw [eb] at h1; exact h1
      | bad => rw [eb] at h1; exact h1



def JR (K : PySem.W.Frag) (κ : Nat → Addr) (ι₀ : List Addr) (H₀ : Hp) (src : Src) (J : It) : Prop := ∀ (i : Nat) (ι : List Addr) (H : Hp) (μ : Store), HM ι₀ H₀ ι H → SR K κ ι μ H → match src.at i μ with
  | none => True
  | some none => J.stop i H
  | some (some v) => J.go i H ∧ ∀ x H', J.yld i H x H' → HM ι H ι H' ∧ SR K κ ι μ H' ∧ Rel K κ ι H' v x
def DI (κ : Nat → Addr) (X : Cx) (tg e : Expr) (r : AI) : Prop := ∀ W : WX, Takes X W → ∃ wi : TI, PI X tg e wi ∧ ∀ (σ : St) (H : Hp) (R : It → Hp → Prop) (ι : List Addr) (ρ : Loc) (μ : Store), SR X.K κ ι μ H → RelS X.K κ ι H ρ σ →
  PG X.K κ W σ ι H (fun src ι' H' => ∀ J, JR X.K κ ι' H' src J → R J H') (r ρ μ) → wi σ H R
theorem DS.fr {tg iter : Expr} {body : List Stmt} {is : List Nat} {it : AI} {g : AG} {b : AS} (hp : PassesOwn (model X.prog X.w) X.A X.env X.xe) (hc : X.calm = true) (hi : DI κ X tg iter it) (hg : DG κ X tg is g) (hb : DSs κ X body b)
    (hs : ∀ x, foldedSetIterable iter X.env x = pure x := by intro _; rfl) : DS κ X (.For tg iter body [] pos) (sFor it g b) := fun W tk => by
  obtain ⟨wi, p0, i0⟩ := hi W tk
  obtain ⟨tg', pg, ig⟩ := hg
  obtain ⟨t1, p1, i1⟩ := hb W tk
  refine ⟨_, ps_for hp hc p0 pg p1 hs, fun D σ H ι ρ μ sr rl h => ?_⟩
  refine i0 σ H _ ι ρ μ sr rl (PO'.bind rl h fun src μ1 ι1 H1 q1 m1 sr1 h1 J hJ => ?_)
  refine ⟨fun i m σ' H' => ∃ (ι' : List Addr) (ρ' : Loc) (μ' : Store), HM ι1 H1 ι' H' ∧ SR X.K κ ι' μ' H' ∧ RelS X.K κ ι' H' ρ' σ' ∧ PO' X.K κ W ι' H' D (forF g b src m i ρ' μ'), ⟨FUEL, ι1, ρ, μ1, HM.refl _, sr1, rl.mono q1 m1, h1⟩, ?_⟩
  rintro i m σ' H' ⟨ι', ρ', μ', hm, sr', rl', h'⟩
  cases m with
  | zero => exact False.elim h'
  | succ m =>
    have hj := hJ i ι' H' μ' hm sr'
    unfold forF at h'
    cases e : src.at i μ' with
    | none => rw [e] at h'; exact False.elim h'
    | some o =>
      rw [e] at h' hj
      cases o with
      | none => exact .inl ⟨hj, h' ι' H' σ' (List.prefix_refl _) (HM.refl _) sr' rl'⟩
      | some v =>
        simp only at h' hj
        cases eg : g v ρ' with
        | none => rw [eg] at h'; exact False.elim h'
        | some ρ1 =>
          rw [eg] at h'
          refine .inr ⟨hj.1, fun σ2 H2 => ∃ (ι2 : List Addr) (ρ2 : Loc) (μ2 : Store), HM ι1 H1 ι2 H2 ∧ SR X.K κ ι2 μ2 H2 ∧ RelS X.K κ ι2 H2 ρ2 σ2 ∧ PO' X.K κ W ι2 H2 D (forF g b src m (i + 1) ρ2 μ2), fun σ2 H2 z => ⟨m, Nat.lt_succ_self _, z⟩, fun x H2 hy => ?_⟩
          obtain ⟨m2, sr2, rx⟩ := hj.2 x H2 hy
          refine ig v x σ' H2 _ ι' ρ' ρ1 (rl'.mono (List.prefix_refl _) m2) rx eg fun σ3 rl3 _ => ?_
          refine i1 _ σ3 H2 ι' ρ1 μ' sr2 rl3 ?_
          simp only at h'
          have h' := PO'.mono (List.prefix_refl _) m2 h'
          cases eb : b ρ1 μ' with
          | nx ρ2 μ2 => rw [eb] at h'; exact fun ι4 H4 σ4 q4 m4 sr4 rl4 => ⟨ι4, ρ2, μ2, (hm.trans m2).trans m4, sr4, rl4, PO'.mono q4 m4 h'⟩
          | ct ρ2 μ2 => rw [eb] at h'; exact fun ι4 H4 σ4 q4 m4 sr4 rl4 => ⟨ι4, ρ2, μ2, (hm.trans m2).trans m4, sr4, rl4, PO'.mono q4 m4 h'⟩
          | bk ρ2 μ2 => rw [eb] at h'; exact h'
          | rt v μ2 => rw [eb] at h'; exact h'
          | ex c v ρ2 μ2 => rw [eb] at h'; exact h'
          | bad => rw [eb] at h'; exact h'


def iAny (r : AE) : AI := fun ρ μ => (r ρ μ).bind fun x μ1 => match x with
  | .tup xs => .ok (.dat xs) μ1
  | .lst xs => .ok (.dat xs) μ1
  | .loc n => match μ1[n]? with
    | some (.lst _) => .ok (.live n) μ1
    | _ => .bad
  | _ => .bad
def iStrA (r : AE) : AI := fun ρ μ => (r ρ μ).bind fun x μ1 => match x with
  | .str z => .ok (.dat (z.cps.toList.map fun c => .str ⟨#[c]⟩)) μ1
  | _ => .bad
def rangeL (lo : Int) (n : Nat) : List AV := (List.range n).map fun i : Nat => .int (lo + i)
def iRng (r : AA) : AI := fun ρ μ => (r ρ μ).bind fun xs μ1 => match xs with
  | [.int j] => if decide (-(2 ^ 62) ≤ j) && decide (j < 2 ^ 62) then .ok (.dat (rangeL 0 j.toNat)) μ1 else .bad
  | _ => .bad
def iRng2 (r : AA) : AI := fun ρ μ => (r ρ μ).bind fun xs μ1 => match xs with
  | [.int i, .int j] => if decide (-(2 ^ 62) ≤ i) && decide (i < 2 ^ 62) && decide (-(2 ^ 62) ≤ j) && decide (j < 2 ^ 62) then .ok (.dat (rangeL i (j - i).toNat)) μ1 else .bad
  | _ => .bad
variable {tg iter : Expr}
theorem JR.seq {K : PySem.W.Frag} {ι : List Addr} {H : Hp} {xs : List AV} {vs : List V} {J : It} (rl : RelL K κ ι H xs vs) (hs : ∀ (i : Nat) (ι' : List Addr) (H' : Hp), HM ι H ι' H' → vs.length ≤ i → J.stop i H') (hg : ∀ (i : Nat) (x : V) (ι' : List Addr) (H' : Hp), HM ι H ι' H' → vs[i]? = some x → J.go i H' ∧ ∀ y H2, J.yld i H' y H2 → H2 = H' ∧ y = x) : JR K κ ι H (.dat xs) J := fun i ι' H' μ hm sr => by
  simp only [Src.at]
  cases e : xs[i]? with
  | none => exact hs i ι' H' hm (by rw [← rl.length]; exact List.getElem?_eq_none_iff.mp e)
  | some v =>
    obtain ⟨x, ex, rx⟩ := rl.get e
    obtain ⟨h1, h2⟩ := hg i x ι' H' hm ex
    refine ⟨h1, fun y H2 hy => ?_⟩
    obtain ⟨rfl, rfl⟩ := h2 y H2 hy
    exact ⟨HM.refl _, sr, rx.mono hm.pre hm⟩
theorem JR.tup {K : PySem.W.Frag} {ι : List Addr} {H : Hp} {xs : List AV} {vs : List V} {p : Addr} (hq : SqT K H p vs) (rl : RelL K κ ι H xs vs) : JR K κ ι H (.dat xs) (Itt K p) :=
  JR.seq rl (fun i ι' H' hm hl => ⟨vs, hm.w.seqT hq, hl⟩) fun i x ι' H' hm ex => ⟨⟨vs, x, hm.w.seqT hq, ex⟩, fun y H2 hy => by
    obtain ⟨e, h⟩ := hy
    have := h vs (hm.w.seqT hq)
    rw [ex] at this
    exact ⟨e, (Option.some.inj this).symm⟩⟩
theorem JR.lst {K : PySem.W.Frag} {ι : List Addr} {H : Hp} {xs : List AV} {vs : List V} {p : Addr} (hq : FzL K H p vs) (rl : RelL K κ ι H xs vs) : JR K κ ι H (.dat xs) (Itl K p) :=
  JR.seq rl (fun i ι' H' hm hl => ⟨vs, (hm.w.fz hq).sq, hl⟩) fun i x ι' H' hm ex => ⟨⟨vs, x, (hm.w.fz hq).sq, ex⟩, fun y H2 hy => by
    obtain ⟨e, h⟩ := hy
    have := h vs (hm.w.fz hq).sq
    rw [ex] at this
    exact ⟨e, (Option.some.inj this).symm⟩⟩
theorem JR.live {K : PySem.W.Frag} {ι : List Addr} {H : Hp} {n : Nat} {p : Addr} (hp : ι[n]? = some p) : JR K κ ι H (.live n) (Itl K p) := fun i ι' H' μ hm sr => by
  simp only [Src.at]
  have hp' := get_prefix hm.pre hp
  split
  · trivial
  · rename_i e
    split at e
    · rename_i xs q
      obtain ⟨vs, e1, r1⟩ := sr.obj n _ p q hp'
      exact ⟨vs, .inl (.inl e1), by rw [← r1.length]; exact List.getElem?_eq_none_iff.mp (Option.some.inj e)⟩
    · cases e
  · rename_i v e
    split at e
    · rename_i xs q
      obtain ⟨vs, e1, r1⟩ := sr.obj n _ p q hp'
      obtain ⟨x, ex, rx⟩ := r1.get (Option.some.inj e)
      refine ⟨⟨vs, x, .inl (.inl e1), ex⟩, fun y H2 hy => ?_⟩
      obtain ⟨rfl, h⟩ := hy
      have := h vs (.inl (.inl e1))
      rw [ex] at this
      cases this
      exact ⟨HM.refl _, sr, rx⟩
    · cases e
theorem iter_lst {pins : List (Addr × Obj)} {σ : St} {H : Hp} {s : Shared} {R : It → Hp → Prop} {E : Value → Shared → Prop} {q : Addr} {vs : List V} (I : Inv X pins σ H s) (hq : SqL X.K H q vs) (h : R (Itl X.K q) H) : wpAny (model X.prog X.w) X.A (pyIter (.ref q)) (PIE X pins σ tg R) E s := by
  obtain ⟨its, rv, p, _⟩ := I.list hq
  have fr : ∀ b ∈ [s.heap.objs.size], FpOk X pins H b := fun b hb => by
    obtain rfl : b = s.heap.objs.size := List.mem_singleton.mp hb
    exact I.fpOk (Nat.le_refl _) (I.hok.fresh (Nat.le_refl _))
  refine wpAny_pyIter_list p.isList ⟨s.heap.objs.size, _, _, Itl X.K q, H, rfl, ?_, turn_list q _, ?_, fr, h⟩
  · exact I.kept (t' := s.toks) fun b o e => Heap.get?_push_of_some _ e
  · exact ⟨_, Heap.get?_push_size _ rfl, rfl, rfl⟩
theorem iter_tup {pins : List (Addr × Obj)} {σ : St} {H : Hp} {s : Shared} {R : It → Hp → Prop} {E : Value → Shared → Prop} {q : Addr} {vs : List V} (I : Inv X pins σ H s) (hq : SqT X.K H q vs) (h : R (Itt X.K q) H) : wpAny (model X.prog X.w) X.A (pyIter (.ref q)) (PIE X pins σ tg R) E s := by
  obtain ⟨its, rv, p, _⟩ := I.tuple hq
  have fr : ∀ b ∈ [s.heap.objs.size], FpOk X pins H b := fun b hb => by
    obtain rfl : b = s.heap.objs.size := List.mem_singleton.mp hb
    exact I.fpOk (Nat.le_refl _) (I.hok.fresh (Nat.le_refl _))
  refine wpAny_pyIter_tuple (show s.heap.IsTuple q its.toArray from p) ⟨s.heap.objs.size, _, _, Itt X.K q, H, rfl, ?_, turn_tuple q _, ?_, fr, h⟩
  · exact I.kept (t' := s.toks) fun b o e => Heap.get?_push_of_some _ e
  · exact ⟨_, Heap.get?_push_size _ rfl, rfl, rfl⟩
theorem DI.any (ha : DE κ X a ra) : DI κ X tg a (iAny ra) := fun W tk => by
  obtain ⟨t, p, i⟩ := ha W tk
  refine ⟨fun σ H R => t σ H fun x H1 => ∃ q, x = .ref q ∧ (((∃ vs, SqL X.K H1 q vs) ∧ R (Itl X.K q) H1) ∨ ((∃ vs, SqT X.K H1 q vs) ∧ R (Itt X.K q) H1)), ⟨fun pins s σ H R I h => ?_⟩, fun σ H R ι ρ μ sr rl h => ?_⟩
  · refine thn (p.run pins s σ H _ I h) fun v s1 ⟨x, H1, I1, r1, q, e, h1⟩ => ?_
    subst e
    obtain rfl : v = Value.ref q := r1
    rcases h1 with ⟨⟨vs, hq⟩, h1⟩ | ⟨⟨vs, hq⟩, h1⟩
    · exact iter_lst I1 hq h1
    · exact iter_tup I1 hq h1
  · refine i σ H _ ι ρ μ sr rl (PG.bind0 h fun x μ1 ι1 H1 p1 m1 sr1 h1 v rv => ?_)
    cases rv <;> first | exact False.elim h1 | skip
    · rename_i xs q vs hq rl
      exact ⟨q, rfl, .inr ⟨⟨vs, hq⟩, h1 ι1 H1 p1 m1 sr1 _ (JR.tup hq rl)⟩⟩
    · rename_i xs q vs hq rl
      exact ⟨q, rfl, .inl ⟨⟨vs, hq.sq⟩, h1 ι1 H1 p1 m1 sr1 _ (JR.lst hq rl)⟩⟩
    · rename_i n q hq
      simp only at h1
      split at h1
      · rename_i xs e
        obtain ⟨vs, e1, r1⟩ := sr1.obj n _ q e hq
        exact ⟨q, rfl, .inl ⟨⟨vs, .inl (.inl e1)⟩, h1 ι1 H1 p1 m1 sr1 _ (JR.live hq)⟩⟩
      · exact False.elim h1
theorem rangeL_get {lo : Int} {n i : Nat} : (rangeL lo n)[i]? = if i < n then some (.int (lo + i)) else none := by
  unfold rangeL
  rw [List.getElem?_map]
  by_cases h : i < n
  · rw [List.getElem?_range h, if_pos h]; rfl
  · rw [List.getElem?_eq_none (by simpa using h), if_neg h]; rfl
theorem JR.rng {K : PySem.W.Frag} {ι : List Addr} {H : Hp} {lo : Int} {n : Nat} : JR K κ ι H (.dat (rangeL lo n)) (Itr lo n) := fun i ι' H' μ hm sr => by
  simp only [Src.at, rangeL_get]
  by_cases h : i < n
  · rw [if_pos h]
    refine ⟨h, fun x H2 hy => ?_⟩
    obtain ⟨rfl, rfl⟩ := hy
    exact ⟨HM.refl _, sr, .int _⟩
  · rw [if_neg h]
    show n ≤ i
    omega
theorem DI.rng1 {p : Pos} (hg : Gl X "range") (hm : X.mg "range" = none) (ha : DA κ X [a] rs) (hs : starEach [a] X.env = [(false, eval a X.env)] := by rfl) : DI κ X tg (.Call (.Name "range" p) [a] [] pos) (iRng rs) := fun W tk => by
  obtain ⟨t, p, i⟩ := ha W tk
  refine ⟨_, pi_range1 hg hm p hs, fun σ H R ι ρ μ sr rl h => ?_⟩
  refine i σ H _ ι ρ μ sr rl (PG.bind0 h fun xs μ1 ι1 H1 p1 m1 sr1 h1 vs rv => ?_)
  split at h1
  · rename_i j
    match vs, rv with
    | [v], .cons r1 .nil =>
      cases r1
      by_cases hz : (decide (-(2 ^ 62) ≤ j) && decide (j < 2 ^ 62)) = true
      · rw [if_pos hz] at h1
        simp only [Bool.and_eq_true, decide_eq_true_eq] at hz
        exact ⟨j, rfl, hz.1, hz.2, h1 ι1 H1 p1 m1 sr1 _ JR.rng⟩
      · rw [if_neg hz] at h1
        exact False.elim h1
  · exact False.elim h1
theorem DI.rng2 {p : Pos} (hg : Gl X "range") (hm : X.mg "range" = none) (ha : DA κ X [a, b] rs) (hs : starEach [a, b] X.env = [(false, eval a X.env), (false, eval b X.env)] := by rfl) (hs2 : starEach [b] X.env = [(false, eval b X.env)] := by rfl) : DI κ X tg (.Call (.Name "range" p) [a, b] [] pos) (iRng2 rs) := fun W tk => by
  obtain ⟨t, p, i⟩ := ha W tk
  refine ⟨_, pi_range2 hg hm p hs hs2, fun σ H R ι ρ μ sr rl h => ?_⟩
  refine i σ H _ ι ρ μ sr rl (PG.bind0 h fun xs μ1 ι1 H1 p1 m1 sr1 h1 vs rv => ?_)
  split at h1
  · rename_i i j
    match vs, rv with
    | [v, u], .cons r1 (.cons r2 .nil) =>
      cases r1
      cases r2
      by_cases hz : (decide (-(2 ^ 62) ≤ i) && decide (i < 2 ^ 62) && decide (-(2 ^ 62) ≤ j) && decide (j < 2 ^ 62)) = true
      · rw [if_pos hz] at h1
        simp only [Bool.and_eq_true, decide_eq_true_eq] at hz
        exact ⟨i, j, rfl, ⟨hz.1.1.1, hz.1.1.2, hz.1.2, hz.2⟩, h1 ι1 H1 p1 m1 sr1 _ JR.rng⟩
      · rw [if_neg hz] at h1
        exact False.elim h1
  · exact False.elim h1


def kE (K : PySem.W.Frag) (κ : Nat → Addr) (W : WX) (r : AE) : TE := fun σ H Q => ∃ (ι : List Addr) (ρ : Loc) (μ : Store), SR K κ ι μ H ∧ RelS K κ ι H ρ σ ∧ PG K κ W σ ι H (CV K κ Q) (r ρ μ)
def kT (K : PySem.W.Frag) (κ : Nat → Addr) (W : WX) (r : AT) : TT := fun σ H Q => ∃ (ι : List Addr) (ρ : Loc) (μ : Store), SR K κ ι μ H ∧ RelS K κ ι H ρ σ ∧ PG K κ W σ ι H (CB Q) (r ρ μ)
def kG (K : PySem.W.Frag) (κ : Nat → Addr) (is : List Nat) (g : AG) : TG := fun x σ H Q => ∃ (ι : List Addr) (v : AV) (ρ ρ' : Loc), RelS K κ ι H ρ σ ∧ Rel K κ ι H v x ∧ g v ρ = some ρ' ∧ ∀ σ', RelS K κ ι H ρ' σ' → (∀ vs : List Nat, (∀ i ∈ is, i ∈ vs) → wipe σ' vs = wipe σ vs) → Q σ' H
theorem DE.kan {W : WX} (h : DE κ X e r) (tk : Takes X W) : PE X e (kE X.K κ W r) := by
  obtain ⟨t, p, i⟩ := h W tk
  exact ⟨fun pins s σ H Q I ⟨ι, ρ, μ, sr, rl, z⟩ => p.run pins s σ H Q I (i σ H Q ι ρ μ sr rl z)⟩
theorem DT.kan {W : WX} {t : AT} (h : DT κ X e t) (tk : Takes X W) : PT X e (kT X.K κ W t) := by
  obtain ⟨t, p, i⟩ := h W tk
  exact ⟨fun pins s σ H Q I ⟨ι, ρ, μ, sr, rl, z⟩ => p.run pins s σ H Q I (i σ H Q ι ρ μ sr rl z)⟩
theorem DG.kan {is : List Nat} {g : AG} (h : DG κ X e is g) : L2.PG X e (kG X.K κ is g) := by
  obtain ⟨t, p, i⟩ := h
  exact ⟨fun pins s σ H v u Q I rv ⟨ι, w, ρ, ρ', rl, r, eg, z⟩ => p.run pins s σ H v u Q I rv (i w v σ H Q ι ρ ρ' rl r eg z)⟩


def wipeA (ρ : Loc) : List Nat → Loc
  | [] => ρ
  | v :: vs => (wipeA ρ vs).set v none
def Res.nox {α : Type} : Res α → Res α
  | .ok a μ => .ok a μ
  | _ => .bad
@[simp] theorem Res.nox_ok {α : Type} (a : α) (μ : Store) : (Res.ok a μ).nox = .ok a μ := rfl
def lcF (g : AG) (tt : AT) (te : AE) (src : Src) : Nat → Nat → Loc → List AV → Store → Res (List AV)
  | 0, _, _, _, _ => .bad
  | m + 1, i, ρ, acc, μ => match src.at i μ with
    | none => .bad
    | some none => .ok acc μ
    | some (some v) => match g v ρ with
      | none => .bad
      | some ρ1 => (tt ρ1 μ).nox.bind fun b μ1 => if b then (te ρ1 μ1).nox.bind fun y μ2 => if acc.length < 16777216 then lcF g tt te src m (i + 1) ρ (acc ++ [y]) μ2 else .bad
        else lcF g tt te src m (i + 1) ρ acc μ1
def aLc (it : AI) (vs : List Nat) (g : AG) (tt : AT) (te : AE) : AA := fun ρ μ => (it ρ μ).bind fun src μ1 => lcF g tt te src FUEL 0 (wipeA ρ vs) [] μ1
def tTrue : AT := fun _ μ => .ok true μ
theorem RelS.wipe {K : PySem.W.Frag} {ι : List Addr} {H : Hp} {ρ : Loc} {σ : St} (rl : RelS K κ ι H ρ σ) : ∀ vs : List Nat, RelS K κ ι H (wipeA ρ vs) (L2.wipe σ vs)
  | [] => rl
  | v :: vs => by
    have ih := RelS.wipe rl vs
    unfold wipeA L2.wipe
    refine ⟨by simp [ih.1], fun i w e => ?_⟩
    by_cases hi : v = i
    · subst hi
      by_cases hl : v < (wipeA ρ vs).length
      · rw [List.getElem?_set_self hl] at e; cases e
      · rw [List.getElem?_eq_none (by simpa using hl)] at e; cases e
    · rw [List.getElem?_set_ne hi] at e ⊢
      exact ih.2 i w e
theorem wipe_none {τ : St} : ∀ {ws : List Nat}, (∀ w ∈ ws, τ[w]? = none ∨ τ[w]? = some none) → L2.wipe τ ws = τ
  | [], _ => rfl
  | w :: ws, h => by
    have ih := wipe_none (τ := τ) (ws := ws) fun i hi => h i (List.mem_cons_of_mem _ hi)
    show (L2.wipe τ ws).set w none = τ
    rw [ih]
    apply List.ext_getElem?
    intro j
    by_cases hj : w = j
    · subst hj
      rcases h w List.mem_cons_self with q | q
      · rw [q, List.getElem?_eq_none (by simpa using List.getElem?_eq_none_iff.mp q)]
      · rw [q, List.getElem?_set_self (List.getElem?_eq_some_iff.mp q).1]
    · rw [List.getElem?_set_ne hj]
theorem wipe_twice {σ : St} {vs : List Nat} : L2.wipe (L2.wipe σ vs) vs = L2.wipe σ vs := wipe_none fun w hw => by
  cases q : (L2.wipe σ vs)[w]? with
  | none => exact .inl rfl
  | some o =>
    cases o with
    | none => exact .inr rfl
    | some x => exact absurd hw (wipe_some q).2
abbrev W0 : WX := fun _ _ _ _ => False
theorem PG.nox {α : Type} {K : PySem.W.Frag} {W : WX} {σ σ' : St} {ι : List Addr} {H : Hp} {C : α → List Addr → Hp → Prop} {r : Res α} (h : PG K κ W σ ι H C r.nox) : PG K κ W0 σ' ι H C r := by
  cases r with
  | ok a μ => exact h
  | ex c v μ => exact False.elim h
  | bad => exact h
section
variable {elt tg iter : Expr} {ifs : List Expr} {scope : Scope} {own : List (Str × Nat)} {it : AI} {is : List Nat} {g : AG} {tt : AT} {te : AE}
theorem im_lc {wi : TI} {W : WX} {vs : List Nat} (hv : ∀ i ∈ is, i ∈ vs) (hw : ∀ (σ : St) (H : Hp) (R : It → Hp → Prop) (ι : List Addr) (ρ : Loc) (μ : Store), SR X.K κ ι μ H → RelS X.K κ ι H ρ σ → PG X.K κ W σ ι H (fun src ι' H' => ∀ J, JR X.K κ ι' H' src J → R J H') (it ρ μ) → wi σ H R) :
    ∀ σ H Q ι ρ μ, SR X.K κ ι μ H → RelS X.K κ ι H ρ σ → PG X.K κ W σ ι H (fun vs ι' H' => ∀ (a : Addr) (xs : List V), RelL X.K κ ι' H' vs xs → H' a = some (.lst xs) → a ∉ ι' → H a = none → Q (.ref a) H') (aLc it vs g tt te ρ μ) →
      tLc wi (kG X.K κ is g) (kT X.K κ W0 tt) (kE X.K κ W0 te) vs σ H Q := fun σ H Q ι ρ μ sr rl h => by
  refine hw σ H _ ι ρ μ sr rl (PG.bind0 h fun src μ1 ι1 H1 p1 m1 sr1 h1 J hJ D hD => ?_)
  have hD0 : H D = none := by
    cases e : H D with
    | none => rfl
    | some u =>
      by_cases z : D ∈ ι
      · exact absurd hD (sr1.on D (p1.subset z))
      · rw [m1.oth D u z e] at hD; cases hD
  refine ⟨fun i m H' => ∃ (ι' : List Addr) (acc : List AV) (av : List V) (μ' : Store), HM ι1 H1 ι' H' ∧ SR X.K κ ι' μ' H' ∧ D ∉ ι' ∧ H' D = some (.lst av) ∧ RelL X.K κ ι' H' acc av ∧
    PG X.K κ W σ ι H (fun vs ι' H' => ∀ (a : Addr) (xs : List V), RelL X.K κ ι' H' vs xs → H' a = some (.lst xs) → a ∉ ι' → H a = none → Q (.ref a) H') (lcF g tt te src m i (wipeA ρ vs) acc μ'),
    ⟨FUEL, ι1, [], [], μ1, HM.fresh hD, sr1.new hD, sr1.notin hD, upd_same, .nil, h1⟩, ?_⟩
  rintro i m H' ⟨ι', acc, av, μ', hm, sr', hn, eD, ra, h'⟩
  cases m with
  | zero => exact False.elim h'
  | succ m =>
    have hj := hJ i ι' H' μ' hm sr'
    unfold lcF at h'
    cases e : src.at i μ' with
    | none => rw [e] at h'; exact False.elim h'
    | some o =>
      rw [e] at h' hj
      cases o with
      | none => exact .inl ⟨hj, h' ι' H' (p1.trans hm.pre) (m1.trans hm) sr' D av ra eD hn hD0⟩
      | some v =>
        simp only at h' hj
        cases eg : g v (wipeA ρ vs) with
        | none => rw [eg] at h'; exact False.elim h'
        | some ρ1 =>
          rw [eg] at h'
          simp only at h'
          refine .inr ⟨hj.1, fun H2 => ∃ (ι2 : List Addr) (acc2 : List AV) (av2 : List V) (μ2 : Store), HM ι1 H1 ι2 H2 ∧ SR X.K κ ι2 μ2 H2 ∧ D ∉ ι2 ∧ H2 D = some (.lst av2) ∧ RelL X.K κ ι2 H2 acc2 av2 ∧
            PG X.K κ W σ ι H (fun vs ι' H' => ∀ (a : Addr) (xs : List V), RelL X.K κ ι' H' vs xs → H' a = some (.lst xs) → a ∉ ι' → H a = none → Q (.ref a) H') (lcF g tt te src m (i + 1) (wipeA ρ vs) acc2 μ2), fun H2 z => ⟨m, Nat.lt_succ_self _, z⟩, fun x H2 hy => ?_⟩
          obtain ⟨m2, sr2, rx⟩ := hj.2 x H2 hy
          have rw2 : RelS X.K κ ι' H2 (wipeA ρ vs) (L2.wipe σ vs) := ((rl.mono p1 m1).mono hm.pre hm).wipe vs |>.mono (List.prefix_refl _) m2
          refine ⟨ι', v, wipeA ρ vs, ρ1, rw2, rx, eg, fun σ2 rl2 hwp => ⟨?_, ?_⟩⟩
          · have z := hwp vs hv
            rw [z]
            exact wipe_twice
          · refine ⟨ι', ρ1, μ', sr2, rl2, PG.nox (PG.bindF (m1.trans (hm.trans m2)) h' fun b μ3 ι3 H3 p3 m3 sr3 h3 => ?_)⟩
            have hm3 := (hm.trans m2).trans m3
            have eD2 : H2 D = some (.lst av) := m2.oth D _ hn eD
            have eD3 : H3 D = some (.lst av) := m3.oth D _ hn eD2
            have hn3 : D ∉ ι3 := fun z => by
              have := m3.new D z hn
              rw [eD2] at this; cases this
            cases b with
            | false =>
              refine iteF ⟨ι3, acc, av, μ3, hm3, sr3, hn3, eD3, (ra.mono (List.prefix_refl _) m2).mono p3 m3, ?_⟩
              simpa using h3
            | true =>
              refine iteT ⟨ι3, ρ1, μ3, sr3, rl2.mono p3 m3, PG.nox (PG.bindF (m1.trans hm3) h3 fun y μ4 ι4 H4 p4 m4 sr4 h4 yv ry => ?_)⟩
              have eD4 : H4 D = some (.lst av) := m4.oth D _ hn3 eD3
              have hn4 : D ∉ ι4 := fun z => by
                have := m4.new D z hn3
                rw [eD3] at this; cases this
              have hm4 := hm3.trans m4
              by_cases hz : acc.length < 16777216
              · rw [if_pos hz] at h4
                have ra4 := (((ra.mono (List.prefix_refl _) m2).mono p3 m3).mono p4 m4)
                have mu : Mut (H4 D) := by rw [eD4]; trivial
                have m5 : HM ι1 H1 ι4 (upd H4 D (.lst (av ++ [yv]))) := hm4.mine mu (.inl hD)
                have w5 : HW H4 (upd H4 D (.lst (av ++ [yv]))) := (HM.mine (HM.refl (ι := [D]) H4) mu (.inr (by simp))).w
                refine ⟨av, eD4, by rw [line16, ← ra4.length]; exact hz, ι4, acc ++ [y], av ++ [yv], μ4, m5, sr4.other w5 hn4, hn4, upd_same, (ra4.append (.cons ry .nil)).monoW (List.prefix_refl _) w5, h4⟩
              · rw [if_neg hz] at h4
                exact False.elim h4
theorem DN.lc (cl : Cl X k) (hi : DI κ X tg iter it) (ok : BlkOk X.N X.env.scope scope own) (hv : ∀ i ∈ is, i ∈ own.map (·.2))
    (hg : ∀ (s : Shared) (H : Hp) (C : Addr) (cl : List (Str × Addr)) (fp : List Addr), DG κ (X.blk s H scope (compEnvC scope cl C X.env) fp) tg is g) (ht : ∀ (s : Shared) (H : Hp) (C : Addr) (cl : List (Str × Addr)) (fp : List Addr), PTs (X.blk s H scope (compEnvC scope cl C X.env) fp) ifs (kT X.K κ W0 tt))
    (he : ∀ (s : Shared) (H : Hp) (C : Addr) (cl : List (Str × Addr)) (fp : List Addr), DE κ (X.blk s H scope (compEnvC scope cl C X.env) fp) elt te) (hs : ∀ x, foldedSetIterable iter X.env x = pure x := by intro _; rfl) :
    DN κ X (.ListComp elt [⟨tg, iter, ifs, 0⟩] scope pos) (aLc it (own.map (·.2)) g tt te) := DN.mk cl fun W tk => by
  obtain ⟨wi, p0, i0⟩ := hi W tk
  exact ⟨_, pe_lc cl.calm cl.nd p0 ok (fun s H C cl fp => (hg s H C cl fp).kan) ht (fun s H C cl fp => (he s H C cl fp).kan takes0) hs, im_lc hv i0⟩
theorem lc_all {K : PySem.W.Frag} {Y : Cx} : PTs Y [] (kT K κ W0 tTrue) := ⟨fun pins s σ H Q I hw => by
  obtain ⟨ι, ρ, μ, sr, rl, h⟩ := hw
  exact pts_nil.run pins s σ H Q I (h ι H (List.prefix_refl _) (HM.refl _) sr)⟩
theorem lc_if {Y : Cx} (h : DT κ Y c tt) : PTs Y [c] (kT Y.K κ W0 tt) := pts_one (h.kan takes0)
end
end
end Lr


namespace Lr
open PySem PySem.Spec L2
open PyProof.Rows hiding St


mutual
def bel (n : Nat) : AV → Bool
  | .tup xs => belL n xs
  | .lst xs => belL n xs
  | .dct kvs => belD n kvs
  | .loc m => decide (m < n)
  | _ => true
def belL (n : Nat) : List AV → Bool
  | [] => true
  | x :: xs => bel n x && belL n xs
def belD (n : Nat) : List (AV × AV) → Bool
  | [] => true
  | (x, y) :: xs => bel n x && bel n y && belD n xs
end
def belO (n : Nat) : AO → Bool
  | .lst xs => belL n xs
  | .dct kvs => kvs.all fun p => bel n p.2
  | .ins _ fs => fs.all fun p => bel n p.2
  | .dead => true
def gcOk (μ μ' : Store) : Prop := ∀ (i : Nat) (o : AO), i < μ.length → μ'[i]? = some o → μ[i]? = some o ∨ belO μ.length o = true
open Classical in
noncomputable def gc (μ : Store) (r : Res AV) : Res AV := match r with
  | .ok v μ' => if bel μ.length v = true ∧ gcOk μ μ' then .ok v (μ'.take μ.length) else .ok v μ'
  | r => r
def startA (n : Nat) (as : List AV) : Loc := as.map some ++ List.replicate (n - as.length) none
def bodyR (n : Nat) (b : AS) : Fn := fun as μ => match b (startA n as) μ with
  | .nx _ μ' => .ok .non μ'
  | .rt v μ' => .ok v μ'
  | .ex c p _ μ' => .ex c p μ'
  | _ => .bad
noncomputable def fnR (n m : Nat) (b : AS) : Fn := fun as μ => if as.length = m then gc μ (bodyR n b as μ) else .bad
section
variable {K : PySem.W.Frag} {κ : Nat → Addr} {ι : List Addr} {H : Hp} {n : Nat}
mutual
theorem Rel.take (n : Nat) : ∀ {v : AV} {x : V}, Rel K κ ι H v x → bel n v = true → Rel K κ (ι.take n) H v x
  | _, _, .non, _ => .non
  | _, _, .bl b, _ => .bl b
  | _, _, .int i, _ => .int i
  | _, _, .str z, _ => .str z
  | _, _, .tup h r, e => .tup h (RelL.takeN n r (by simpa [bel] using e))
  | _, _, .lst h r, e => .lst h (RelL.takeN n r (by simpa [bel] using e))
  | _, _, .dct h ho hd hn r, e => .dct h ho hd hn (RelD.takeN n r (by simpa [bel] using e))
  | _, _, .loc (n := m) h, e => .loc (by
      have hm : m < n := by simpa [bel] using e
      rw [List.getElem?_take_of_lt hm]
      exact h)
  | _, _, .obj k, _ => .obj k
  | _, _, .scr h, _ => .scr h
  | _, _, .ty m, _ => .ty m
theorem RelL.takeN (n : Nat) : ∀ {v : List AV} {x : List V}, RelL K κ ι H v x → belL n v = true → RelL K κ (ι.take n) H v x
  | _, _, .nil, _ => .nil
  | _, _, .cons h r, e => by
    simp only [belL, Bool.and_eq_true] at e
    exact .cons (Rel.take n h e.1) (RelL.takeN n r e.2)
theorem RelD.takeN (n : Nat) : ∀ {v : List (AV × AV)} {x : List DictEntry}, RelD K κ ι H v x → belD n v = true → RelD K κ (ι.take n) H v x
  | _, _, .nil, _ => .nil
  | _, _, .cons h hv g gv r, e => by
    simp only [belD, Bool.and_eq_true] at e
    exact .cons (Rel.take n h e.1.1) hv (Rel.take n g e.1.2) gv (RelD.takeN n r e.2)
end
mutual
theorem Rel.bel : ∀ {v : AV} {x : V}, Rel K κ ι H v x → bel ι.length v = true
  | _, _, .non => rfl
  | _, _, .bl b => rfl
  | _, _, .int i => rfl
  | _, _, .str z => rfl
  | _, _, .tup h r => by simpa [Lr.bel] using RelL.bel r
  | _, _, .lst h r => by simpa [Lr.bel] using RelL.bel r
  | _, _, .dct h ho hd hn r => by simpa [Lr.bel] using RelD.bel r
  | _, _, .loc h => by simpa [Lr.bel] using (List.getElem?_eq_some_iff.mp h).1
  | _, _, .obj k => rfl
  | _, _, .scr h => rfl
  | _, _, .ty m => rfl
theorem RelL.bel : ∀ {v : List AV} {x : List V}, RelL K κ ι H v x → belL ι.length v = true
  | _, _, .nil => rfl
  | _, _, .cons h r => by simp only [belL, Bool.and_eq_true]; exact ⟨Rel.bel h, RelL.bel r⟩
theorem RelD.bel : ∀ {v : List (AV × AV)} {x : List DictEntry}, RelD K κ ι H v x → belD ι.length v = true
  | _, _, .nil => rfl
  | _, _, .cons h hv g gv r => by simp only [belD, Bool.and_eq_true]; exact ⟨⟨Rel.bel h, Rel.bel g⟩, RelD.bel r⟩
end
theorem RelF.bel : ∀ {v : List (Str × AV)} {x : List (Str × V)}, RelF K κ ι H v x → (v.all fun p => Lr.bel ι.length p.2) = true
  | _, _, .nil => rfl
  | _, _, .cons h r => by rw [List.all_cons, h.2.bel, RelF.bel r]; rfl
theorem RelF.takeN : ∀ {v : List (Str × AV)} {x : List (Str × V)}, RelF K κ ι H v x → (v.all fun p => Lr.bel n p.2) = true → RelF K κ (ι.take n) H v x
  | _, _, .nil, _ => .nil
  | _, _, .cons h r, e => by
    rw [List.all_cons, Bool.and_eq_true] at e
    exact .cons ⟨h.1, h.2.take n e.1⟩ (RelF.takeN r e.2)
theorem RelK.bel : ∀ {v : List (Key × AV)} {x : List (Key × V)}, RelK K κ ι H v x → (v.all fun p => Lr.bel ι.length p.2) = true
  | _, _, .nil => rfl
  | _, _, .cons h r => by rw [List.all_cons, h.2.bel, RelK.bel r]; rfl
theorem RelK.takeN : ∀ {v : List (Key × AV)} {x : List (Key × V)}, RelK K κ ι H v x → (v.all fun p => Lr.bel n p.2) = true → RelK K κ (ι.take n) H v x
  | _, _, .nil, _ => .nil
  | _, _, .cons h r, e => by
    rw [List.all_cons, Bool.and_eq_true] at e
    exact .cons ⟨h.1, h.2.take n e.1⟩ (RelK.takeN r e.2)
theorem ObjR.bel {a : Addr} {o : AO} (h : ObjR K κ ι H a o) : belO ι.length o = true := by
  cases o with
  | lst xs => obtain ⟨vs, _, r⟩ := h; exact r.bel
  | dct kvs => obtain ⟨vs, _, r⟩ := h; exact RelK.bel r
  | ins c fs => obtain ⟨dx, vs, _, r⟩ := h; exact RelF.bel r
  | dead => rfl
theorem ObjR.take {a : Addr} {o : AO} (h : ObjR K κ ι H a o) (e : belO n o = true) : ObjR K κ (ι.take n) H a o := by
  cases o with
  | lst xs => obtain ⟨vs, h1, r⟩ := h; exact ⟨vs, h1, r.takeN n e⟩
  | dct kvs => obtain ⟨vs, h1, r⟩ := h; exact ⟨vs, h1, RelK.takeN r e⟩
  | ins c fs => obtain ⟨dx, vs, h1, r⟩ := h; exact ⟨dx, vs, h1, RelF.takeN r e⟩
  | dead => trivial
theorem gc_ok {W : WX} {σ : St} {μ : Store} {Q : VK} {r : Res AV} (sr : SR K κ ι μ H) (h : PG K κ W σ ι H (CV K κ Q) (gc μ r)) : PG K κ W σ ι H (CV K κ Q) r := by
  cases r with
  | ex c p μ' => exact h
  | bad => exact h
  | ok v μ' =>
    unfold gc at h
    simp only at h
    split at h
    · rename_i hc
      obtain ⟨hb, hg⟩ := hc
      intro ι' H' p m sr' x rx
      have et : ι'.take μ.length = ι := by
        obtain ⟨t, rfl⟩ := p
        rw [← sr.len, List.take_left]
      have rx' : Rel K κ ι H' v x := by
        have z := rx.take μ.length hb
        rw [et] at z
        exact z
      refine h ι H' (List.prefix_refl _) ⟨List.prefix_refl _, m.tup, m.frz, m.oth, fun _ h n => absurd h n⟩ ⟨?_, sr.nd, fun a ha => sr'.on a (p.subset ha), fun i o a h1 h2 => ?_⟩ x rx'
      · have : μ.length ≤ μ'.length := by
          rw [← sr.len, ← sr'.len]
          exact p.length_le
        rw [List.length_take, sr.len]
        omega
      · have hi : i < μ.length := by
          rw [← sr.len]
          exact (List.getElem?_eq_some_iff.mp h2).1
        rw [List.getElem?_take_of_lt hi] at h1
        have z := sr'.obj i o a h1 (get_prefix p h2)
        have hb' : belO μ.length o = true := by
          rcases hg i o hi h1 with q | q
          · rw [← sr.len]
            exact (sr.obj i o a q h2).bel
          · exact q
        have z2 := z.take hb'
        rw [et] at z2
        exact z2
    · exact h
end


structure FnD (κ : Nat → Addr) (P : Program) (w : World) (K : PySem.W.Frag) (mg : Str → Option Value) (base : Heap) (k : Nat) (f : Addr) (fd : FuncData) (ps : List Str) (r : Fn) : Prop where
  len : ∀ (as : List AV) (μ : Store), as.length ≠ ps.length → r as μ = .bad
  run : ∀ (A : Around) (outer : List Env) (s : Shared) (H : Hp) (args : Args) (us : List Value) (vs : List V) (as : List AV) (ι : List Addr) (μ : Store) (Q : VK) (E : XK), Room k A → A.guards = some [] → Env0 P w K mg base A outer s H → BindsTo s fd args (ps.zip us) → Vals vs us →
    RelL K κ ι H as vs → vs.length = ps.length → SR K κ ι μ H → PG K κ (fun cls d _ H' => E cls d H') [] ι H (CV K κ Q) (r as μ) → codeAny (model P w) A (.call (.ref f) args) (CR (L2.CX P w) outer P w H s Q E) s
theorem FnD.mono {κ : Nat → Addr} {P : Program} {w : World} {K : PySem.W.Frag} {mg : Str → Option Value} {base : Heap} {j k : Nat} {f : Addr} {fd : FuncData} {ps : List Str} {r : Fn} (F : FnD κ P w K mg base j f fd ps r) (h : j ≤ k) : FnD κ P w K mg base k f fd ps r :=
  ⟨F.len, fun A outer s H args us vs as ι μ Q E hr => F.run A outer s H args us vs as ι μ Q E (hr.mono h)⟩
theorem FnD.bad {κ : Nat → Addr} {P : Program} {w : World} {K : PySem.W.Frag} {mg : Str → Option Value} {base : Heap} {k : Nat} {f : Addr} {fd : FuncData} {ps : List Str} : FnD κ P w K mg base k f fd ps (fun _ _ => .bad) :=
  ⟨fun _ _ _ => rfl, fun A outer s H args us vs as ι μ Q E _ _ _ _ _ _ _ _ h => False.elim h⟩
theorem start_rel {K : PySem.W.Frag} {κ : Nat → Addr} {ι : List Addr} {H : Hp} {N : List Str} {as : List AV} {vs : List V} (r : RelL K κ ι H as vs) : RelS K κ ι H (startA N.length as) (L2.start N vs) := by
  refine ⟨by simp [startA, L2.start, r.length], fun i v e => ?_⟩
  unfold startA at e
  unfold L2.start
  by_cases hi : i < as.length
  · rw [List.getElem?_append_left (by simpa using hi), List.getElem?_map] at e
    cases q : as[i]? with
    | none => rw [q] at e; cases e
    | some a =>
      rw [q] at e
      cases e
      obtain ⟨x, ex, rx⟩ := r.get q
      refine ⟨x, ?_, rx⟩
      rw [List.getElem?_append_left (by rw [List.length_map, ← r.length]; exact hi), List.getElem?_map, ex]
      rfl
  · rw [List.getElem?_append_right (by simpa using hi), List.getElem?_replicate] at e
    split at e <;> cases e
theorem guards_deeper {A : Around} {env : Env} (h : A.guards = some []) : (A.deeper env).guards = some [] := h

theorem FnD.of {κ : Nat → Addr} {P : Program} {w : World} {K : PySem.W.Frag} {mg : Str → Option Value} {base : Heap} {k : Nat} {x qual : Str} {st : Stmt} {f : Addr} {fd : FuncData} {N ps : List Str} {b : AS} (F : Fun K x qual st f fd) (S : FnScope N ps (defScope st)) (hsm : ∃ o, base.get? sysModules = some o)
    (hb : ∀ (cdv : Value) (A : Around) (outer : List Env) (s : Shared) (H : Hp) (E : XK), Cl (cxOf (L2.CX P w) P w K mg base N qual (defScope st) f cdv A outer s H E) k → DSs κ (cxOf (L2.CX P w) P w K mg base N qual (defScope st) f cdv A outer s H E) (defBody st) b) :
    FnD κ P w K mg base (k + 1) f fd ps (fnR N.length ps.length b) := by
  obtain ⟨oc, od, kV, doc, pm, an, cdv, ct, osl, rfl, lk, hcd⟩ := F.ex
  refine ⟨fun as μ hn => if_neg hn, fun A outer s H args us vs as ι μ Q E hr hgd e0 hbd r ra hl sr h => ?_⟩
  have KX : K.In s.heap := e0.mod.kin.keeps fun b o e => (e0.bs b o e).1
  have lim : s.heap.NoLimit := e0.mod.nolimit.keeps fun b o e => (e0.bs b o e).1
  have par : ∀ y ∈ ps.zip us, (defScope st).names.lookup y.1 = some .local ∨ ((defScope st).names.lookup y.1 = some .cell ∧ ((cellsFrom (s.heap.objs.size + 1) (defScope st).names []).lookup y.1).isSome = true) := by
    rintro ⟨n, v⟩ hy
    exact (S.par n (List.of_mem_zip hy).1).imp id fun q => ⟨q, PySem.W.cellsFrom_some _ _ _ (.inl q)⟩
  refine codeAny_call_function hr.depth (KX _ _ lk) rfl S.co S.gen rfl (PySem.W.codeRec_of KX hcd) (hbd _ _ _ _ ?_)
  refine wpAny_newFunctionEnv_cells S.kind par fun env he s1 x => ?_
  subst he
  refine ⟨lim.keeps x.toInCall.keep, codeAny_func ?_⟩
  have I := inv_start (CX := L2.CX P w) (E := E) (f := f) (qual := qual) (cd := cdv) S hr.hd e0 hl r x
  have cl : Cl (cxOf (L2.CX P w) P w K mg base N qual (defScope st) f cdv A outer s H E) k := ⟨rfl, S.nd, hr.deeper _, guards_deeper hgd, hsm⟩
  obtain ⟨t, pt, it⟩ := hb cdv A outer s H E cl _ (takes_of rfl rfl rfl rfl)
  have hlen : as.length = ps.length := ra.length.trans hl
  have go : t { nx := fun _ H' => Q .non H', rt := Q } (L2.start N vs) H := by
    refine it _ _ H ι (startA N.length as) μ sr (start_rel ra) ?_
    have h2 := gc_ok (r := bodyR N.length b as μ) sr (by simpa only [fnR, if_pos hlen] using h)
    unfold bodyR at h2
    cases eb : b (startA N.length as) μ with
    | nx ρ' μ' => rw [eb] at h2; exact fun ι' H' σ' p m sr' _ => h2 ι' H' p m sr' .non .non
    | rt v μ' => rw [eb] at h2; exact fun ι' H' x p m sr' rx => h2 ι' H' p m sr' x rx
    | ex c p ρ' μ' => rw [eb] at h2; exact fun ι' H' σ' d p m sr' _ e => h2 ι' H' d p m sr' e
    | bk ρ' μ' => rw [eb] at h2; exact False.elim h2
    | ct ρ' μ' => rw [eb] at h2; exact False.elim h2
    | bad => rw [eb] at h2; exact False.elim h2
  refine wpAny_mono (pt.run [] s1 (L2.start N vs) H _ I go) (fun fl s' hs => ?_) fun e s' hs => hs
  cases fl with
  | next =>
    obtain ⟨σ', H', J, q⟩ := hs
    exact ⟨V.non, H', J.os, J.bare, J.base, J.hok, rfl, q⟩
  | ret u =>
    obtain ⟨v, σ', H', J, rv, q⟩ := hs
    exact ⟨v, H', J.os, J.bare, J.base, J.hok, rv, q⟩
  | brk =>
    obtain ⟨_, _, _, q⟩ := hs
    exact False.elim q
  | cont =>
    obtain ⟨_, _, _, q⟩ := hs
    exact False.elim q


def eCall (r : Fn) (a : AA) : AE := fun ρ μ => (a ρ μ).bind fun as μ1 => r as μ1
section
variable {κ : Nat → Addr} {X : Cx} {e : Expr} {es : List Expr} {rs : AA} {k j : Nat} {f : Addr} {fd : FuncData} {ps : List Str} {r : Fn} {x : Str} {p pos : Pos}
theorem DE.call (cl : Cl X k) (F : FnD κ X.prog X.w X.K X.mg X.base k f fd ps r) (hg : Gl X x) (hm : X.mg x = some (.ref f)) (hk : PySem.W.keepIn X.K (.ref f) = true) (hb : Binds X.K fd ps [])
    (ha : DA κ X (e :: es) rs) (hdb : (x == ("__debug__" : Str)) = false := by decide) (he : starEach (e :: es) X.env = (false, eval e X.env) :: starEach es X.env := by rfl) (hpl : (backTo pos (starEach es X.env)).any (·.1) = false := by rfl) :
    DE κ X (.Call (.Name x p) (e :: es) [] pos) (eCall r rs) := fun W tk => by
  obtain ⟨t, q, i⟩ := ha W tk
  refine ⟨fun σ H Q => t σ H fun vs H1 => ∃ (ι : List Addr) (μ : Store) (as : List AV), SR X.K κ ι μ H1 ∧ RelL X.K κ ι H1 as vs ∧ PG X.K κ W σ ι H1 (CV X.K κ Q) (r as μ), ⟨fun pins s σ H Q I h => ?_⟩, fun σ H Q ι ρ μ sr rl h => ?_⟩
  · refine wpAny_Call_Name_kw (ld_glob I hg hm ?_ hdb)
    refine PySem.W.callWith_K (h₀ := X.base) I.ok.mod.kin hk (thn (q.run pos pins s σ H _ I h) fun us s1 ⟨vs, H1, I1, rv, ι, μ, as, sr, ra, h1⟩ => ⟨I1.kIn, ?_⟩) he hpl
    have hl1 : as.length = ps.length := by
      by_cases z : as.length = ps.length
      · exact z
      · rw [F.len as μ z] at h1; exact False.elim h1
    have hl2 : (us ++ ([] : List Value)).length = ps.length := by rw [List.append_nil, ← rv.length, ← ra.length]; exact hl1
    have hbd := hb s1 us I1.kIn hl2
    rw [List.append_nil] at hbd
    refine wpAny_call (codeAny_mono (F.run X.A X.stack s1 H1 ⟨us, []⟩ us vs as ι μ Q (fun cls d H' => W cls d σ H') cl.room cl.gd I1.env0 hbd rv ra (by rw [← ra.length]; exact hl1) sr (by
      cases er : r as μ with
      | ok v μ2 => rw [er] at h1; exact h1
      | ex c v μ2 => rw [er] at h1; exact h1
      | bad => rw [er] at h1; exact h1)) fun rr s' hq => ?_)
    cases rr with
    | error e => exact tk e s' (XE.of_call I1 (fun _ _ _ z => z) hq)
    | ok fl =>
      cases fl with
      | ret u => exact I1.after hq
      | next => exact False.elim hq
      | brk => exact False.elim hq
      | cont => exact False.elim hq
  · exact i σ H _ ι ρ μ sr rl (PG.bind h fun as μ1 ι1 H1 p1 m1 sr1 h1 vs rv => ⟨ι1, μ1, as, sr1, rv, h1⟩)
end
end Lr


namespace Lr
open PySem PySem.Spec L2
open PyProof.Rows hiding St

section
variable {κ : Nat → Addr} {X : Cx} {a b c e o : Expr} {ra rb rc r : AE} {pos p2 pos' : Pos} {g g' : G2} {k : Nat} {es : List Expr} {rs : AA}

def stL (μ : Store) : AV → Option (Nat × List AV)
  | .loc n => match μ[n]? with
    | some (.lst xs) => some (n, xs)
    | _ => none
  | _ => none
theorem stL_rel {K : PySem.W.Frag} {ι : List Addr} {H : Hp} {μ : Store} (sr : SR K κ ι μ H) {a : AV} {x : V} {n : Nat} {xs : List AV} (r : Rel K κ ι H a x) (e : stL μ a = some (n, xs)) : ∃ p vs, x = .ref p ∧ ι[n]? = some p ∧ H p = some (.lst vs) ∧ RelL K κ ι H xs vs := by
  cases r <;> first | (cases e; done) | skip
  rename_i m p h
  simp only [stL] at e
  split at e
  · rename_i ys q
    cases e
    obtain ⟨vs, e1, r1⟩ := sr.obj _ _ p q h
    exact ⟨p, vs, rfl, h, e1, r1⟩
  · cases e

theorem ok_lset {K : PySem.W.Frag} {W : WX} {σ : St} {ι : List Addr} {H : Hp} {Q : VK} {v : AV} {x : V} {μ : Store} {n : Nat} {p : Addr} {vs ws : List V} {ys : List AV} (sr : SR K κ ι μ H) (hp : ι[n]? = some p) (e : H p = some (.lst vs)) (rl : RelL K κ ι H ys ws) (rv : Rel K κ ι H v x)
    (h : PG K κ W σ ι H (CV K κ Q) (.ok v (μ.set n (.lst ys)))) : Q x (upd H p (.lst ws)) := by
  have m : HM ι H ι (upd H p (.lst ws)) := HM.wr (by rw [e]; trivial) (List.mem_of_getElem? hp)
  exact h ι _ (List.prefix_refl _) m (sr.write hp (by rw [e]; trivial) ⟨ws, upd_same, rl.mono (List.prefix_refl _) m⟩) x (rv.mono (List.prefix_refl _) m)
theorem lst_ty {K : PySem.W.Frag} {ι ι' : List Addr} {H H' : Hp} {x : V} {vs : List V} {p : Addr} (e : x = .ref p) (h : SqL K H p vs) : tyV K "list" x H := by
  subst e
  exact .inl ⟨rfl, vs, h⟩

def isLs (μ : Store) (v : AV) : Bool := (lsOf μ v).isSome
def eApp2 (o a : AE) : AE := fun ρ μ => (o ρ μ).bind fun l μ1 => if isLs μ1 l then (a ρ μ1).bind fun v μ2 => match stL μ2 l with
  | some (n, xs) => if xs.length < 16777216 then .ok .non (μ2.set n (.lst (xs ++ [v]))) else .bad
  | none => .bad else .bad
theorem DE.app {apos cpos : Pos} (ho : DE κ X o ra) (ha : DE κ X a rb)
    (hbase : attributeBase o "append" X.env (eval o X.env) = eval o X.env := by rfl)
    (hfew : ((backTo cpos (starEach [a] X.env)).all (fun x => !x.1) && (backToKw cpos (keywordEach [] X.env)).all (fun x => x.1.isSome) && decide ([a].length + ([] : List Keyword).length + (if ([] : List Keyword).isEmpty then 0 else 1) < 30)) = true := by rfl)
    (hline : (apos.endLine == cpos.line) = true := by rfl) (hs : starEach [a] X.env = (false, eval a X.env) :: starEach [] X.env := by rfl) (hplain : (backTo cpos (starEach [] X.env)).any (·.1) = false := by rfl) :
    DE κ X (.Call (.Attribute o "append" apos) [a] [] cpos) (eApp2 ra rb) := fun W tk => by
  obtain ⟨t, p, i⟩ := ho W tk
  obtain ⟨u, q, j⟩ := ha W tk
  refine ⟨_, pe_bm PySem.F.plainAttrs_list PySem.F.slot_list_append PySem.F.type_list_append mt_append p (pa_cons q pa_nil hs) hbase hfew hline hs hplain, fun σ H Q ι ρ μ sr rl h => ?_⟩
  refine i σ H _ ι ρ μ sr rl (PG.bind h fun l μ1 ι1 H1 p1 m1 sr1 h1 lv rlv => ?_)
  by_cases hl : isLs μ1 l = true
  · rw [if_pos hl] at h1
    obtain ⟨xs0, e0⟩ := Option.isSome_iff_exists.mp hl
    obtain ⟨p0, vs0, ex, h0, _⟩ := ls_rel sr1 rlv e0
    refine ⟨lst_ty (ι := ι1) (ι' := ι1) (H' := H1) ex h0, ?_⟩
    refine j σ H1 _ ι1 ρ μ1 sr1 (rl.mono p1 m1) (PG.bind h1 fun v μ2 ι2 H2 p2 m2 sr2 h2 vv rv => ?_)
    show rAppend _ [vv] H2 Q
    split at h2
    · rename_i n xs e1
      by_cases hz : xs.length < 16777216
      · rw [if_pos hz] at h2
        obtain ⟨q1, vs, rfl, hq, e2, r2⟩ := stL_rel sr2 (rlv.mono p2 m2) e1
        exact ⟨q1, vs, vv, rfl, rfl, e2, by rw [line16, ← r2.length]; exact hz, ok_lset sr2 hq e2 (r2.append (.cons rv .nil)) .non h2⟩
      · rw [if_neg hz] at h2
        exact False.elim h2
    · exact False.elim h2
  · rw [if_neg hl] at h1
    exact False.elim h1

def sSub (o i r : AE) : AS := fun ρ μ => (r ρ μ).out ρ fun v μ1 => (o ρ μ1).out ρ fun l μ2 => (i ρ μ2).out ρ fun j μ3 => match stL μ3 l, j with
  | some (n, xs), .int k => match ixN xs.length k with
    | some m => .nx ρ (μ3.set n (.lst (xs.set m v)))
    | none => .bad
  | _, _ => .bad
theorem DS.sub {i : Expr} (ho : DE κ X o ra) (hi : DE κ X i rb) (hv : DE κ X a rc) (hs : swapsWithSole [.Subscript o i pos'] a pos.line X.env = pure false := by rfl) (hw : swappedStores [.Subscript o i pos'] a X.env = pure none := by rfl)
    (h1 : (assignEach [.Subscript o i pos'] X.env).map (·.2) = [assign (.Subscript o i pos') X.env] := by rfl)
    (hx : ∀ v, assign (.Subscript o i pos') X.env v = (do
      let ov ← holding [v] (eval o X.env)
      let iv ← holding [v, ov] (eval i X.env)
      standAt pos'
      holding [v, ov, iv] (setItem ov iv v)
      release [v, ov, iv] []) := by intro _; rfl) : DS κ X (.Assign [.Subscript o i pos'] a pos) (sSub ra rb rc) := fun W tk => by
  obtain ⟨t1, p1, i1⟩ := ho W tk
  obtain ⟨t2, p2, i2⟩ := hi W tk
  obtain ⟨t3, p3, i3⟩ := hv W tk
  refine ⟨_, ps_asg p3 (pg_sub p1 p2 set_list hx) hs hw h1, fun D σ H ι ρ μ sr rl h => ?_⟩
  refine i3 σ H _ ι ρ μ sr rl (PO'.bind rl h fun v μ1 ι1 H1 q1 m1 sr1 h1 vv rv => ?_)
  refine i1 σ H1 _ ι1 ρ μ1 sr1 (rl.mono q1 m1) (PO'.bind (rl.mono q1 m1) h1 fun l μ2 ι2 H2 q2 m2 sr2 h2 lv rlv => ?_)
  have rl2 := (rl.mono q1 m1).mono q2 m2
  refine i2 σ H2 _ ι2 ρ μ2 sr2 rl2 (PO'.bind rl2 h2 fun j μ3 ι3 H3 q3 m3 sr3 h3 jv rj => ?_)
  split at h3
  · rename_i n xs kk e1
    cases rj
    split at h3
    · rename_i m em
      obtain ⟨p0, vs, rfl, hq, e2, r2⟩ := stL_rel sr3 (rlv.mono q3 m3) e1
      refine ⟨p0, vs, kk, m, rfl, rfl, e2, by rw [← r2.length]; exact em, ?_⟩
      have mm : HM ι3 H3 ι3 (upd H3 p0 (.lst (vs.set m vv))) := HM.wr (by rw [e2]; trivial) (List.mem_of_getElem? hq)
      have rv3 := (rv.mono q2 m2).mono q3 m3
      exact h3 ι3 _ σ (List.prefix_refl _) mm (sr3.write hq (by rw [e2]; trivial) ⟨_, upd_same, (RelL.set rv3 m r2).mono (List.prefix_refl _) mm⟩) ((rl2.mono q3 m3).mono (List.prefix_refl _) mm)
    · exact False.elim h3
  · exact False.elim h3

theorem sq_at {pins : List (Addr × Obj)} {σ : St} {H : Hp} {s : Shared} {p : Addr} {vs : List V} {K : PySem.W.Frag} (I : Inv X pins σ H s) (h : Rd H p (.lst vs)) : ∃ (its : List Value) (n : Nat), Vals vs its ∧ s.heap.get? p = some { cls := .type "list", data := .seq its.toArray n } ∧ vs.length ≤ sizeLine := by
  obtain ⟨z, its, n, r, e⟩ := h.ok I.hok
  exact ⟨its, n, r, e, z⟩
theorem ls_rd {K : PySem.W.Frag} {ι : List Addr} {H : Hp} {μ : Store} (sr : SR K κ ι μ H) {a : AV} {x : V} {xs : List AV} (r : Rel K κ ι H a x) (e : lsOf μ a = some xs) : ∃ p vs, x = .ref p ∧ Rd H p (.lst vs) ∧ RelL K κ ι H xs vs := by
  cases r with
  | lst h r => cases e; obtain ⟨o, h, _⟩ := h; exact ⟨_, _, rfl, .inr ⟨o, h⟩, r⟩
  | loc h =>
    rename_i n p
    simp only [lsOf] at e
    cases q : μ[n]? with
    | none => rw [q] at e; cases e
    | some o =>
      rw [q] at e
      cases o <;> first | (cases e; done) | skip
      cases e
      obtain ⟨vs, e1, r1⟩ := sr.obj n _ p q h
      exact ⟨p, vs, rfl, .inl e1, r1⟩
  | _ => cases e
def aCat (a b : AE) : AA := fun ρ μ => (a ρ μ).bind fun x μ1 => (b ρ μ1).bind fun y μ2 => match lsOf μ2 x, lsOf μ2 y with
  | some xs, some ys => if xs.length + ys.length ≤ 16777216 then .ok (xs ++ ys) μ2 else .bad
  | _, _ => .bad
theorem op_catR : OpR X (binaryOp .Add) (fun x y H Q => ∃ l b xs zs, x = .ref l ∧ y = .ref b ∧ Rd H l (.lst xs) ∧ Rd H b (.lst zs) ∧ xs.length + zs.length ≤ sizeLine ∧ ∀ p, H p = none → Q (.ref p) (upd H p (.lst (xs ++ zs)))) := by
  intro pins s σ H x y v u Q I rx ry hh
  obtain ⟨l, b, xs, zs, rfl, rfl, hl, hb, hz, q⟩ := hh
  cases rx
  cases ry
  obtain ⟨its, n, r, e, z1⟩ := sq_at (K := X.K) I hl
  obtain ⟨its2, n2, r2, e2, z2⟩ := sq_at (K := X.K) I hb
  have l1 := r.length
  have l2 := r2.length
  refine PySem.P.add_list e e2 ?_ (by rw [List.size_toArray, List.size_toArray]; omega)
  rw [show its.toArray ++ its2.toArray = (its ++ its2).toArray by simp]
  have hn := I.hok.fresh (Nat.le_refl s.heap.objs.size)
  refine ⟨.ref s.heap.objs.size, _, I.laid (t' := s.toks) (o := .lst (xs ++ zs)) (fun b o q => Heap.get?_push_of_some _ q) (Nat.le_refl _) ?_, rfl, q _ hn⟩
  exact ⟨by rw [List.length_append]; exact hz, _, 0, r.append r2, Heap.get?_push_size _ rfl⟩
theorem DN.cat (cl : Cl X k) (ha : DE κ X a ra) (hb : DE κ X b rb) : DN κ X (.BinOp a .Add b pos) (aCat ra rb) := DN.mk cl fun W tk => by
  obtain ⟨t1, p1, i1⟩ := ha W tk
  obtain ⟨t2, p2, i2⟩ := hb W tk
  refine ⟨_, pe_op op_catR p1 p2, fun σ H Q ι ρ μ sr rl h => ?_⟩
  refine i1 σ H _ ι ρ μ sr rl (PG.bind0 h fun x μ1 ι1 H1 p1 m1 sr1 h1 xv rx => ?_)
  refine i2 σ H1 _ ι1 ρ μ1 sr1 (rl.mono p1 m1) (PG.bindF m1 h1 fun y μ2 ι2 H2 p2 m2 sr2 h2 yv ry => ?_)
  split at h2
  · rename_i xs ys e1 e2
    by_cases hz : xs.length + ys.length ≤ 16777216
    · rw [if_pos hz] at h2
      obtain ⟨q1, vs1, rfl, d1, r1⟩ := ls_rd sr2 (rx.mono p2 m2) e1
      obtain ⟨q2, vs2, rfl, d2, r2⟩ := ls_rd sr2 ry e2
      exact ⟨q1, q2, vs1, vs2, rfl, rfl, d1, d2, by rw [line16, ← r1.length, ← r2.length]; exact hz, fun p hn => okNew sr sr2 (m1.trans m2) h2 (r1.append r2) hn⟩
    · rw [if_neg hz] at h2
      exact False.elim h2
  · exact False.elim h2
theorem ext_tup (l : Addr) (items : Array Value) (n : Nat) (b : Addr) (items2 : Array Value) (n2 : Nat) (dd : Option Addr) (sl : Array (Option Value)) (hs0 : ¬(!items.isEmpty && Builtin.List.listTooLong (items.size + items2.size)) = true) (hs1 : items.size ≤ sizeLine) (hs2 : items.size + items2.size ≤ sizeLine + 1 := by seq_fits) :
    Meets (Builtin.«list.extend» ⟨[.ref l, .ref b], []⟩) (fun _ R s => s.heap.get? l = some { cls := .type "list", dict := none, data := .seq items n, slots := #[] } ∧ s.heap.get? b = some { cls := .type "tuple", dict := dd, data := .seq items2 n2, slots := sl } ∧ R (.ok (.ret Value.none)) { s with heap := s.heap.update l (Obj.mapSeq fun x => x ++ items2), toks := s.toks }) :=
  .of_wp fun prog w A R s h => by
    obtain ⟨hp, g, d, tk, os⟩ := s
    obtain ⟨hl, hb, h⟩ := h
    have f1 := AutoSeq1.idx_int
    have f2 := AutoSeq1.sub_tuple_tuple
    have f3 := AutoSeq1.sub_list_list
    have f4 := AutoSeq1.sub_tuple_list
    have f5 := AutoSeq1.sub_list_tuple
    have hz' : (items ++ items2).size ≤ sizeLine + 1 := by rw [Array.size_append]; exact hs2
    wp_walk using (wpAny_updateSeq hl rfl (hz := hs1) (_hz' := hz')), AutoSeq1.wpAny_loadPart' hl, AutoSeq1.wpAny_loadPart' hb
    exact ⟨_, rfl, h⟩

def rExtA (K : PySem.W.Frag) : V → List V → Hp → VK → Prop := fun x vs H Q => ∃ l b xs zs, x = .ref l ∧ vs = [.ref b] ∧ H l = some (.lst xs) ∧ (Rd H b (.lst zs) ∨ SqT K H b zs) ∧ xs.length + zs.length ≤ sizeLine ∧ Q .non (upd H l (.lst (xs ++ zs)))
theorem mt_extA : MtM X "list.extend" (rExtA X.K) := by
  intro pins s σ H x vs v us Q I rx rv h
  obtain ⟨l, b, xs, zs, rfl, rfl, hH, hB, hz, q⟩ := h
  cases rx
  obtain ⟨u, rfl, ru⟩ := rv.one
  cases ru
  obtain ⟨z, its, n, r, hl, e⟩ := I.lstM hH
  have done : ∀ {its2 : List Value}, Vals zs its2 → ∃ y H', Inv X pins σ H' { s with heap := s.heap.update l (Obj.mapSeq fun x => x ++ its2.toArray), toks := s.toks } ∧ RelV y Value.none ∧ Q y H' := fun {its2} r2 => by
    refine ⟨.non, _, I.lset (its' := its ++ its2) hH e (by simp) (r.append r2) ?_, rfl, q⟩
    rw [List.length_append]
    omega
  have long : ∀ m : Nat, its.toArray.size + m ≤ sizeLine → ¬ (!its.toArray.isEmpty && Builtin.List.listTooLong (its.toArray.size + m)) = true := fun m hm => by
    rw [notLongL hm, Bool.and_false]
    exact Bool.false_ne_true
  rcases hB with hB | hB
  · obtain ⟨its2, n2, r2, e2, z2⟩ := sq_at (K := X.K) I hB
    have l2 := r2.length
    have hsz : its.toArray.size + its2.toArray.size ≤ sizeLine := by rw [List.size_toArray, List.size_toArray]; omega
    exact call_meets PySem.F.slot_list_extend ⟨_, e, rfl⟩ PySem.F.entry_list_extend (PySem.F.args_list_extend_2 _ _)
      (AutoSeq1.list_extend_list_list_0 l its.toArray n b its2.toArray n2 (long _ hsz) (by rw [List.size_toArray]; omega) (by omega)) ⟨e, e2, done r2⟩
  · obtain ⟨its2, r2, ⟨⟨cls, dd, data, sl⟩, ho, hc, n2, hd⟩, hs⟩ := I.tuple hB
    simp only at hc hd
    subst hc hd
    have l2 := r2.length
    have hsz : its.toArray.size + its2.toArray.size ≤ sizeLine := by rw [List.size_toArray, List.size_toArray]; omega
    exact call_meets PySem.F.slot_list_extend ⟨_, e, rfl⟩ PySem.F.entry_list_extend (PySem.F.args_list_extend_2 _ _)
      (ext_tup l its.toArray n b its2.toArray n2 dd sl (long _ hsz) (by rw [List.size_toArray]; omega) (by omega)) ⟨e, ho, done r2⟩

def itsOf (μ : Store) : AV → Option (List AV)
  | .tup xs => some xs
  | v => lsOf μ v
theorem its_rd {K : PySem.W.Frag} {ι : List Addr} {H : Hp} {μ : Store} (sr : SR K κ ι μ H) {a : AV} {x : V} {xs : List AV} (r : Rel K κ ι H a x) (e : itsOf μ a = some xs) : ∃ p vs, x = .ref p ∧ (Rd H p (.lst vs) ∨ SqT K H p vs) ∧ RelL K κ ι H xs vs := by
  cases r with
  | tup h r => cases e; exact ⟨_, _, rfl, .inr h, r⟩
  | lst h r =>
    obtain ⟨p, vs, e1, e2, e3⟩ := ls_rd sr (.lst h r) (xs := xs) e
    exact ⟨p, vs, e1, .inl e2, e3⟩
  | loc h =>
    obtain ⟨p, vs, e1, e2, e3⟩ := ls_rd sr (.loc h) (xs := xs) e
    exact ⟨p, vs, e1, .inl e2, e3⟩
  | _ => cases e
def eExt (o a : AE) : AE := fun ρ μ => (o ρ μ).bind fun l μ1 => if isLs μ1 l then (a ρ μ1).bind fun v μ2 => match stL μ2 l, itsOf μ2 v with
  | some (n, xs), some ys => if xs.length + ys.length ≤ 16777216 then .ok .non (μ2.set n (.lst (xs ++ ys))) else .bad
  | _, _ => .bad else .bad
theorem DE.ext {apos cpos : Pos} (ho : DE κ X o ra) (ha : DE κ X a rb)
    (hbase : attributeBase o "extend" X.env (eval o X.env) = eval o X.env := by rfl)
    (hfew : ((backTo cpos (starEach [a] X.env)).all (fun x => !x.1) && (backToKw cpos (keywordEach [] X.env)).all (fun x => x.1.isSome) && decide ([a].length + ([] : List Keyword).length + (if ([] : List Keyword).isEmpty then 0 else 1) < 30)) = true := by rfl)
    (hline : (apos.endLine == cpos.line) = true := by rfl) (hs : starEach [a] X.env = (false, eval a X.env) :: starEach [] X.env := by rfl) :
    DE κ X (.Call (.Attribute o "extend" apos) [a] [] cpos) (eExt ra rb) := fun W tk => by
  obtain ⟨t, p, i⟩ := ho W tk
  obtain ⟨u, q, j⟩ := ha W tk
  refine ⟨_, pe_bm PySem.F.plainAttrs_list PySem.F.slot_list_extend PySem.F.type_list_extend mt_extA p (pa_cons q pa_nil hs) hbase hfew hline hs, fun σ H Q ι ρ μ sr rl h => ?_⟩
  refine i σ H _ ι ρ μ sr rl (PG.bind h fun l μ1 ι1 H1 p1 m1 sr1 h1 lv rlv => ?_)
  by_cases hl : isLs μ1 l = true
  · rw [if_pos hl] at h1
    obtain ⟨xs0, e0⟩ := Option.isSome_iff_exists.mp hl
    obtain ⟨p0, vs0, ex, h0, _⟩ := ls_rel sr1 rlv e0
    refine ⟨lst_ty (ι := ι1) (ι' := ι1) (H' := H1) ex h0, ?_⟩
    refine j σ H1 _ ι1 ρ μ1 sr1 (rl.mono p1 m1) (PG.bind h1 fun v μ2 ι2 H2 p2 m2 sr2 h2 vv rv => ?_)
    show rExtA X.K _ [vv] H2 Q
    split at h2
    · rename_i n xs ys e1 e2
      by_cases hz : xs.length + ys.length ≤ 16777216
      · rw [if_pos hz] at h2
        obtain ⟨q1, vs, rfl, hq, e3, r2⟩ := stL_rel sr2 (rlv.mono p2 m2) e1
        obtain ⟨q2, us, rfl, d2, r3⟩ := its_rd sr2 rv e2
        exact ⟨q1, q2, vs, us, rfl, rfl, e3, d2, by rw [line16, ← r2.length, ← r3.length]; exact hz, ok_lset sr2 hq e3 (r2.append r3) .non h2⟩
      · rw [if_neg hz] at h2
        exact False.elim h2
    · exact False.elim h2
  · rw [if_neg hl] at h1
    exact False.elim h1
end
end Lr


namespace Lr
open PySem PySem.Spec L2
open PyProof.Rows hiding St

section
variable {prog : Program} {w : World} {A : Around} {E : Value → Shared → Prop} {s : Shared}
open HT in
theorem applied_rev {sl : Addr} {vs : Value} {n : Nat} {Q : Int × Int × Nat → Shared → Prop} (hs : s.heap.IsSliceOf sl .none .none vs) (ps : IsPart vs (some (-1))) (h : Q ((n : Int) - 1, -1, n) s) :
    wpAny (model prog w) A (Builtin.Slice.sliceApplied (.ref sl) (pure (n : Int))) Q E s := by
  obtain ⟨os, hos, hcs, hds⟩ := id hs
  unfold Builtin.Slice.sliceApplied Builtin.Slice.sliceFields
  refine wpAny_bind (wpAny_bind (wpAny_field hos hds (x := .none) rfl (wpAny_bind (wpAny_field hos hds (x := .none) rfl (wpAny_bind (wpAny_field hos hds (x := vs) rfl (wpAny_pure ?_)))))))
  refine wpAny_bind (slicePart_ ps ?_)
  show wpAny _ _ (if ((-1 : Int) == 0) = true then _ else _) _ _ s
  rw [if_neg (by decide)]
  refine wpAny_bind (slicePart_none (wpAny_bind (slicePart_none (wpAny_bind (wpAny_pure ?_)))))
  show wpAny _ _ (match Builtin.Slice.sliceAdjust none none (-1) (n : Int) with | (lo, hi) => pure (lo, (-1 : Int), Builtin.Slice.slicePlaces lo hi (-1))) _ _ s
  have e1 : Builtin.Slice.sliceAdjust none none (-1) (n : Int) = ((n : Int) - 1, -1) := rfl
  have e2 : Builtin.Slice.slicePlaces ((n : Int) - 1) (-1) (-1) = n := by
    unfold Builtin.Slice.slicePlaces
    have h1 : ¬ ((-1 : Int) > 0) := by omega
    simp only [h1, if_false]
    split
    · have : (((n : Int) - 1) - (-1) - 1) / (- -1) = (n : Int) - 1 := by
        rw [show (- -1 : Int) = 1 by omega, Int.ediv_one]; omega
      rw [this]; omega
    · omega
  rw [e1]
  show wpAny _ _ (pure ((n : Int) - 1, (-1 : Int), Builtin.Slice.slicePlaces ((n : Int) - 1) (-1) (-1))) _ _ s
  rw [e2]
  exact wpAny_pure h
theorem fm_map {α β : Type} {f : α → Option β} {g : α → β} : ∀ {l : List α}, (∀ m, m ∈ l → f m = some (g m)) → l.filterMap f = l.map g
  | [], _ => rfl
  | x :: xs, h => by rw [List.filterMap_cons, h x (List.mem_cons_self ..), List.map_cons, fm_map fun m hm => h m (List.mem_cons_of_mem _ hm)]
theorem pick_rev (xs : List Value) : ((List.range xs.length).filterMap fun (m : Nat) => xs.toArray[((xs.length : Int) - 1 + (m : Int) * -1).toNat]?) = xs.reverse := by
  apply List.ext_getElem?
  intro i
  have e : ∀ m, m ∈ List.range xs.length → xs.toArray[((xs.length : Int) - 1 + (m : Int) * -1).toNat]? = some (xs[xs.length - 1 - m]?.getD .none) := by
    intro m hm
    have hm := List.mem_range.mp hm
    have e1 : ((xs.length : Int) - 1 + (m : Int) * -1).toNat = xs.length - 1 - m := by omega
    rw [e1, List.getElem?_toArray, List.getElem?_eq_getElem (by omega), Option.getD_some]
  have e2 : ((List.range xs.length).filterMap fun (m : Nat) => xs.toArray[((xs.length : Int) - 1 + (m : Int) * -1).toNat]?) = (List.range xs.length).map fun m => xs[xs.length - 1 - m]?.getD .none := by
    exact fm_map e
  rw [e2]
  by_cases h : i < xs.length
  · rw [List.getElem?_map, List.getElem?_range h, List.getElem?_reverse h]
    simp
    rw [List.getElem?_eq_getElem (by omega)]
    rfl
  · rw [List.getElem?_eq_none (by simpa using h), List.getElem?_eq_none (by simpa using h)]
open HT in
theorem tuple_rev {t sl : Addr} {items : List Value} {vs : Value} {Q : Value → Shared → Prop} (ht : IsTup s.heap t items.toArray) (hs : s.heap.IsSliceOf sl .none .none vs) (ps : IsPart vs (some (-1)))
    (h : Q (.ref s.heap.objs.size) { s with heap := s.heap.push { cls := .type "tuple", data := .seq items.reverse.toArray } }) (hsz : items.length ≤ sizeLine) : wpAny (model prog w) A (getItem (.ref t) (.ref sl)) Q E s := by
  have htake : sizeOk (.seq items.reverse.toArray) := by
    show items.reverse.toArray.size ≤ sizeLine
    rw [List.size_toArray, List.length_reverse]
    exact hsz
  obtain ⟨os, hos, hcs, hds⟩ := id hs
  have hTs : s.TypeIs (.ref sl) "slice" := ⟨os, hos, hcs⟩
  unfold getItem
  try with_reducible refine wpAny_holding ?_
  first | refine wpAny_bind (wpAny_pure ?_) | skip
  refine wpAny_bind (wpAny_sequenceKey ht.typeIs (by decide) ?_)
  refine wpAny_bind (wpAny_callSpecial?_slot (name := Str.ofString "__getitem__") ht.typeIs PyProof.Rows.slot_tuple_getitem
    (wpAny_call_entry PyProof.Rows.slot_tuple_getitem ht.typeIs entry_tuple_getitem ?_ (args_tuple_getitem _ _)))
  show wpAny _ _ (Builtin.Tuple.tupleItemsOf (.ref t) >>= _) _ _ s
  refine wpAny_bind (tupleItemsOf_ ht ?_)
  refine wpAny_bind (wpAny_typeOf hTs ?_)
  rw [if_pos (by decide)]
  refine wpAny_bind (applied_rev hs ps ?_)
  have hno : ¬ ((((items.toArray.size : Int) - 1) == 0 && (-1 : Int) == 1 && items.toArray.size == items.toArray.size) = true) := by
    intro q
    rw [Bool.and_eq_true, Bool.and_eq_true] at q
    exact absurd q.1.2 (by decide)
  show wpAny _ _ (if (((items.toArray.size : Int) - 1) == 0 && (-1 : Int) == 1 && items.toArray.size == items.toArray.size) = true then _ else _) _ _ s
  rw [if_neg hno]
  rw [show ((List.range items.toArray.size).filterMap fun (m : Nat) => items.toArray[((items.toArray.size : Int) - 1 + (m : Int) * -1).toNat]?) = items.reverse from by rw [List.size_toArray]; exact pick_rev items]
  first
    | exact wpAny_bind (m := Builtin.Tuple.tupleExact _) (wpAny_newObj_type (wpAny_pure ⟨_, rfl, wpAny_pure h⟩) htake)
    | exact wpAny_bind (m := Builtin.Tuple.tupleExact _) (wpAny_newObj_type (wpAny_bind (wpAny_pure (wpAny_pure ⟨_, rfl, wpAny_pure h⟩))) htake)
    | exact wpAny_bind (wpAny_bind (m := Builtin.Tuple.tupleExact _) (wpAny_newObj_type (wpAny_pure (wpAny_pure ⟨_, rfl, wpAny_pure h⟩)) htake))
    | exact wpAny_bind (wpAny_bind (m := Builtin.Tuple.tupleExact _) (wpAny_newObj_type (wpAny_pure ⟨_, rfl, wpAny_pure h⟩) htake))
end
section
variable {κ : Nat → Addr} {X : Cx} {a b c e o : Expr} {ra rb rc r : AE} {pos p1 p2 p3 p4 pos' : Pos} {g g' : G2} {k kk : Nat} {es : List Expr} {rs : AA}
def tRevA (K : PySem.W.Frag) (te : TE) : TE := fun σ H Q => te σ H fun x H1 => ∃ a xs, x = .ref a ∧ SqT K H1 a xs ∧ ∀ p, H1 p = none → Q (.ref p) (upd H1 p (.tup xs.reverse))
theorem pe_revA {te : TE} (he : PE X e te) : PE X (.Subscript e (.Slice none none (some (.UnaryOp .USub (.Constant (.int 1) k p1) p2)) p3) pos) (tRevA X.K te) := by
  refine ⟨fun pins s σ H Q I h => ?_⟩
  refine Subscript_ (thn (he.run pins s σ H _ I h) fun v s1 ⟨x, H1, I1, r1, q1⟩ => ?_)
  obtain ⟨a, xs, ex, hx, q⟩ := q1
  subst ex
  cases r1
  have hst : PO X (some (.UnaryOp .USub (.Constant (.int 1) k p1) p2)) (tPart (tUn (rU fun i => .int (-i)) (tC (.int 1)))) := po_some (pe_un un_neg pe_int)
  refine wpAny_Slice (thn (po_none.run pins s1 σ H1 (fun o H2 => o = none ∧ H2 = H1) I1 ⟨rfl, rfl⟩) fun vl s2 ⟨l, H2, I2, pl, el, e2⟩ => ?_)
  subst el e2
  refine thn (po_none.run pins s2 σ H2 (fun o H3 => o = none ∧ H3 = H2) I2 ⟨rfl, rfl⟩) fun vu s3 ⟨u, H3, I3, pu, eu, e3⟩ => ?_
  subst eu e3
  refine thn (hst.run pins s3 σ H3 (fun o H4 => o = some (-1) ∧ H4 = H3) I3 ⟨1, rfl, -1, rfl, rfl, rfl⟩) fun vs s4 ⟨o, H4, I4, ps, eo, e4⟩ => ?_
  subst eo e4
  have I5 : Inv X pins σ H4 { s4 with heap := s4.heap.push { cls := .type "slice", data := .fields #[vl, vu, vs] } } := I4.kept (t' := s4.toks) fun b ob q => Heap.get?_push_of_some _ q
  obtain ⟨its, r, ht, hz⟩ := I5.tuple hx
  have hlen := r.length
  cases pl
  cases pu
  show wpAny (model X.prog X.w) X.A (subscriptTail e (.Slice none none (some (.UnaryOp .USub (.Constant (.int 1) k p1) p2)) p3) (.ref a) (.ref s4.heap.objs.size)) (EP X pins σ Q) X.xe { s4 with heap := s4.heap.push { cls := .type "slice", data := .fields #[.none, .none, vs] } }
  refine tail_any (ops := [.ref a, .ref s4.heap.objs.size]) ht.typeIs (PyProof.Rows.slot_tuple_getitem.lookup) ?_ (by with_unfolding_all rfl)
  refine tuple_rev ht (Heap.IsSliceOf.new _ _ _ vs) ps ?_ (by omega)
  refine ⟨.ref _, _, I5.laid (t' := s4.toks) (o := .tup xs.reverse) (fun b ob q => Heap.get?_push_of_some _ q) (Nat.le_refl _) ?_, rfl, q _ (I5.hok.fresh (Nat.le_refl _))⟩
  exact ⟨by rw [List.length_reverse]; exact hz, _, r.reverse, IsTup.new _ _⟩
def eRev (a : AE) : AE := fun ρ μ => (a ρ μ).bind fun x μ1 => match x with
  | .tup xs => .ok (.tup xs.reverse) μ1
  | _ => .bad
theorem DE.rev (ha : DE κ X a ra) : DE κ X (.Subscript a (.Slice none none (some (.UnaryOp .USub (.Constant (.int 1) k p1) p2)) p3) pos) (eRev ra) := fun W tk => by
  obtain ⟨t, p, i⟩ := ha W tk
  refine ⟨_, pe_revA p, fun σ H Q ι ρ μ sr rl h => ?_⟩
  refine i σ H _ ι ρ μ sr rl (PG.bind h fun x μ1 ι1 H1 p1 m1 sr1 h1 v rv => ?_)
  cases x <;> first | exact False.elim h1 | skip
  cases rv with
  | tup h r => exact ⟨_, _, rfl, h, fun p hn => okT sr1 h1 r.reverse hn⟩


def keyOf : AV → Option Key
  | .int i => some (.inl i)
  | .str x => some (.inr x)
  | _ => none
def keysOf : List (AV × AV) → Option (List Key)
  | [] => some []
  | (x, _) :: r => match keyOf x, keysOf r with
    | some k, some ks => some (k :: ks)
    | _, _ => none
def eDic (r : Loc → Store → Res (List (AV × AV))) : AE := fun ρ μ => (r ρ μ).bind fun kvs μ1 => match keysOf kvs with
  | some ks => if ks.Nodup ∧ kvs.length ≤ 15 then .ok (.dct kvs) μ1 else .bad
  | none => .bad
def pNil : Loc → Store → Res (List (AV × AV)) := fun _ μ => .ok [] μ
def pCons (a b : AE) (r : Loc → Store → Res (List (AV × AV))) : Loc → Store → Res (List (AV × AV)) := fun ρ μ => (a ρ μ).bind fun x μ1 => (b ρ μ1).bind fun y μ2 => (r ρ μ2).bind fun kvs μ3 => .ok ((x, y) :: kvs) μ3
inductive RelP (K : PySem.W.Frag) (κ : Nat → Addr) (ι : List Addr) (H : Hp) : List (AV × AV) → List (V × V) → Prop
  | nil : RelP K κ ι H [] []
  | cons {x y : AV} {v u : V} {kvs : List (AV × AV)} {ps : List (V × V)} (h : Rel K κ ι H x v) (g : Rel K κ ι H y u) (r : RelP K κ ι H kvs ps) : RelP K κ ι H ((x, y) :: kvs) ((v, u) :: ps)
theorem RelP.length {K : PySem.W.Frag} {ι : List Addr} {H : Hp} : ∀ {kvs : List (AV × AV)} {ps : List (V × V)}, RelP K κ ι H kvs ps → kvs.length = ps.length
  | _, _, .nil => rfl
  | _, _, .cons _ _ r => by rw [List.length_cons, List.length_cons, RelP.length r]
theorem RelP.monoW {K : PySem.W.Frag} {ι ι' : List Addr} {H H' : Hp} (p : ι <+: ι') (m : HW H H') : ∀ {kvs : List (AV × AV)} {ps : List (V × V)}, RelP K κ ι H kvs ps → RelP K κ ι' H' kvs ps
  | _, _, .nil => .nil
  | _, _, .cons h g r => .cons (h.monoW p m) (g.monoW p m) (RelP.monoW p m r)

def DP (κ : Nat → Addr) (X : Cx) (pos : Pos) (keys : List (Option Expr)) (vals : List Expr) (r : Loc → Store → Res (List (AV × AV))) : Prop := ∀ W, Takes X W → ∃ trs, PPs X pos keys vals trs ∧ ∀ σ H Q ι ρ μ, SR X.K κ ι μ H → RelS X.K κ ι H ρ σ →
  PG X.K κ W σ ι H (fun kvs ι' H' => HM ι H ι' H' → ∀ ps, RelP X.K κ ι' H' kvs ps → Q ps H') (r ρ μ) → tPairs trs σ H Q
theorem DP.nil : DP κ X pos [] [] pNil := fun W tk => ⟨[], pps_nil, fun σ H Q ι ρ μ sr rl h => h ι H (List.prefix_refl _) (HM.refl _) sr (HM.refl _) [] .nil⟩
theorem DP.cons {ks : List (Option Expr)} {vs : List Expr} {rp : Loc → Store → Res (List (AV × AV))} (ha : DE κ X a ra) (hb : DE κ X b rb) (hr : DP κ X pos ks vs rp) : DP κ X pos (some a :: ks) (b :: vs) (pCons ra rb rp) := fun W tk => by
  obtain ⟨t1, q1, i1⟩ := ha W tk
  obtain ⟨t2, q2, i2⟩ := hb W tk
  obtain ⟨t3, q3, i3⟩ := hr W tk
  refine ⟨_, pps_cons q1 q2 q3, fun σ H Q ι ρ μ sr rl h => ?_⟩
  refine i1 σ H _ ι ρ μ sr rl (PG.bind0 h fun x μ1 ι1 H1 p1 m1 sr1 h1 v rv => ?_)
  refine i2 σ H1 _ ι1 ρ μ1 sr1 (rl.mono p1 m1) (PG.bindF m1 h1 fun y μ2 ι2 H2 p2 m2 sr2 h2 u ru => ?_)
  refine i3 σ H2 _ ι2 ρ μ2 sr2 ((rl.mono p1 m1).mono p2 m2) (PG.bindF (m1.trans m2) h2 fun kvs μ3 ι3 H3 p3 m3 sr3 h3 _ ps rp => ?_)
  have m := (m1.trans m2).trans m3
  exact h3 ι3 H3 m.pre m sr3 m _ (.cons ((rv.mono p2 m2).mono p3 m3) (ru.mono p3 m3) rp)
theorem keyOf_kV {K : PySem.W.Frag} {ι : List Addr} {H : Hp} {x : AV} {v : V} {k : Key} (r : Rel K κ ι H x v) (e : keyOf x = some k) : v = kV k := by
  cases r <;> simp only [keyOf] at e <;> cases e <;> rfl
theorem keys_kV {K : PySem.W.Frag} {ι : List Addr} {H : Hp} : ∀ {kvs : List (AV × AV)} {ps : List (V × V)} {ks : List Key}, RelP K κ ι H kvs ps → keysOf kvs = some ks → ∃ qs : List (Key × V), ps = qs.map (fun kv => (kV kv.1, kv.2)) ∧ qs.map (·.1) = ks
  | _, _, _, .nil, e => by cases e; exact ⟨[], rfl, rfl⟩
  | _, _, _, .cons (x := x) (y := y) (v := v) (u := u) (kvs := kvs) h g r, e => by
    simp only [keysOf] at e
    split at e
    · rename_i k ks e1 e2
      cases e
      obtain ⟨qs, eq, ek⟩ := keys_kV r e2
      refine ⟨(k, u) :: qs, ?_, ?_⟩
      · rw [List.map_cons, ← eq, keyOf_kV h e1]
      · rw [List.map_cons, ek]
    · cases e
theorem merge_new : ∀ (qs acc : List (Key × V)), (acc.map (·.1) ++ qs.map (·.1)).Nodup → mergeK acc qs = acc ++ qs
  | [], acc, _ => by rw [List.append_nil]; rfl
  | q :: qs, acc, h => by
    have hq : (acc.any fun kv => decide (kv.1 = q.1)) = false := by
      rw [List.any_eq_false]
      intro kv hk e
      have e := of_decide_eq_true e
      rw [List.map_cons, List.nodup_append] at h
      exact h.2.2 kv.1 (List.mem_map_of_mem hk) q.1 (List.mem_cons_self ..) e
    show mergeK (putK acc q.1 q.2) qs = _
    have e : putK acc q.1 q.2 = acc ++ [q] := by
      unfold putK
      rw [if_neg (by rw [hq]; exact Bool.false_ne_true)]
    rw [e, merge_new qs (acc ++ [q]) (by simpa using h)]
    simp
theorem pairs_rel {P : Program} {w : World} {K : PySem.W.Frag} {ι : List Addr} {H : Hp} : ∀ {kvs : List (AV × AV)} {qs : List (Key × V)} {vs : List (Key × Value)} {es : List DictEntry}, RelP K κ ι H kvs (qs.map (fun kv => (kV kv.1, kv.2))) → KV qs vs → Pairs (mixKind P w) es vs → RelD K κ ι H kvs es
  | [], [], _, _, _, r, p => by cases r; cases p; exact .nil
  | (x, y) :: kvs, q :: qs, _, _, rp, r, p => by
    cases r with
    | cons r1 r2 =>
      cases p with
      | cons h1 h2 p =>
        rw [List.map_cons] at rp
        cases rp with
        | cons h g rp =>
          refine .cons h ?_ g (by rw [h2]; exact r1.2) (pairs_rel rp r2 p)
          have hk := r1.1 ▸ h1
          rename_i e0 es0 kv0
          rcases keyIs_shape (k := q.1) (v := es0.key) hk with ⟨i, t, e1, e2⟩ | ⟨z, t, e1, e2⟩
          · rw [e1, e2]; exact ⟨t, rfl⟩
          · rw [e1, e2]; exact ⟨t, rfl⟩
def tFzD (t : TE) : TE := fun σ H Q => t σ H fun x H1 => ∃ p qs, x = .ref p ∧ H1 p = some (.dK qs) ∧ ∀ (P : Program) (w : World) (o : Obj) (es : Array DictEntry) (ep : Nat) (vs : List (Key × Value)), o.ExactDict → o.data = .dict es ep → KV qs vs → Pairs (mixKind P w) es.toList vs → p ≠ sysModules →
  Q x (upd H1 p (.frz o (.ext fun h => h.get? p = some o)))
theorem pe_fzD {e : Expr} {t : TE} (h : PE X e t) : PE X e (tFzD t) := by
  refine ⟨fun pins s σ H Q I hw => ?_⟩
  refine thn (h.run pins s σ H _ I hw) fun v s1 ⟨x, H1, I1, r1, p, qs, ex, ep, fin⟩ => ?_
  obtain ⟨z, hd, vs, rk, o, es, n, eo, ho, hes, _, hp, _⟩ := dk_of I1.hok ep
  have ne : ∀ {b : Addr}, H1 b = none → b ≠ p := fun q z => by subst z; rw [ep] at q; cases q
  have nt : ∀ {b : Addr} {u : HO}, H1 b = some u → (∀ xs, u ≠ .dK xs) → b ≠ p := fun q q2 z => by subst z; rw [ep] at q; cases q; exact q2 _ rfl
  refine ⟨x, _, I1.un (h' := s1.heap) (t' := s1.toks) (H' := upd H1 p (.frz o (.ext fun h => h.get? p = some o))) ⟨fun b o q _ _ _ => q, fun b o q _ _ _ => ⟨o.slots, q⟩, fun b o q n _ => by rw [upd_ne (ne n)]; exact n, fun b o q _ => ⟨o, q⟩, fun b xs q => by rw [upd_ne (nt q (fun _ => by simp))]; exact q, fun b o u q => by rw [upd_ne (nt q (fun _ => by simp))]; exact q, fun b ps q => ⟨#[], by rw [upd_ne (nt q (fun _ => by simp)), q]; simp⟩⟩ fun b u q => ?_, r1, fin _ _ o es n vs ho hes rk hp (by intro z; subst z; simp at hd)⟩
  by_cases hb : b = p
  · subst hb
    rw [upd_same] at q
    cases q
    exact ⟨eo, eo, ⟨o, eo⟩, fun h1 h2 a b => b o a⟩
  · rw [upd_ne hb] at q
    exact (I1.hok b u q).stay (fun c v _ z => z) (fun c z => by rw [upd_ne (nt z (fun _ => by simp))]; exact z) fun c xs z => by rw [upd_ne (nt z (fun _ => by simp))]; exact z

theorem dic_fin {K : PySem.W.Frag} {W : WX} {σ : St} {ι : List Addr} {H : Hp} {Q : VK} {kvs : List (AV × AV)} {ι1 : List Addr} {H1 : Hp} {p : Addr} {μ1 : Store} {qs : List (Key × V)} {P : Program} {w : World} {o : Obj} {es : Array DictEntry} {ep : Nat} {vs : List (Key × Value)}
    (sr1 : SR K κ ι1 μ1 H1) (hn : p ∉ ι1) (m1 : HM ι H ι1 H1) (h0 : H p = none) (e0 : H1 p = some (.dK [])) (h : PG K κ W σ ι H (CV K κ Q) (.ok (.dct kvs) μ1)) (rp : RelP K κ ι1 H1 kvs (qs.map fun kv => (kV kv.1, kv.2)))
    (ho : o.ExactDict) (hd : o.data = .dict es ep) (rk : KV qs vs) (pr : Pairs (mixKind P w) es.toList vs) (hs : p ≠ sysModules) : Q (.ref p) (upd H1 p (.frz o (.ext fun h => h.get? p = some o))) := by
  have mu : Mut (H1 p) := by rw [e0]; trivial
  have wk : HW H1 (upd H1 p (.frz o (.ext fun h => h.get? p = some o))) := (HM.mine (HM.refl (ι := [p]) H1) mu (.inr (by simp))).w
  refine h ι1 _ m1.pre (m1.mine mu (.inl h0)) (sr1.other wk hn) _ (.dct upd_same ho hd hs ?_)
  exact pairs_rel (rp.monoW (List.prefix_refl _) wk) rk pr
theorem DE.dic0 (cl : Cl X kk) : DE κ X (.Dict [] [] pos) (eDic pNil) := fun W tk => by
  refine ⟨_, pe_fzD pe_dnewK, fun σ H Q ι ρ μ sr rl h p hn => ?_⟩
  refine ⟨p, [], rfl, upd_same, fun P w o es ep vs ho hd rk pr hs => ?_⟩
  have h2 : PG X.K κ W σ ι H (CV X.K κ Q) (.ok (.dct []) μ) := by simpa [eDic, pNil, keysOf, Res.bind] using h
  exact dic_fin (sr.new (o := .dK []) hn) (sr.notin hn) (HM.fresh hn) hn upd_same h2 .nil ho hd rk pr hs
theorem DE.dic {ks : List (Option Expr)} {vs : List Expr} {rp : Loc → Store → Res (List (AV × AV))} (h : DP κ X pos ks vs rp) (hall : ks.all (·.isSome) = true := by rfl) (hl : ks.length = vs.length := by rfl) (h0 : ks ≠ [] := by simp) (h15 : ks.length ≤ 15 := by decide) :
    DE κ X (.Dict ks vs pos) (eDic rp) := fun W tk => by
  obtain ⟨t, p, i⟩ := h W tk
  refine ⟨_, pe_fzD (pe_disp p hall hl h0 h15), fun σ H Q ι ρ μ sr rl h p hn => ?_⟩
  have rl1 := rl.mono (List.prefix_refl _) (HM.fresh (o := .dK []) hn)
  refine i σ _ _ ι ρ μ (sr.new (o := .dK []) hn) rl1 (PG.bindF (HM.fresh hn) h fun kvs μ1 ι1 H1 p1 m1 sr1 h1 _ ps rp => ?_)
  have e1 : H1 p = some (.dK []) := m1.oth p _ (sr.notin hn) upd_same
  split at h1
  · rename_i kk ek
    by_cases hk : kk.Nodup ∧ kvs.length ≤ 15
    · rw [if_pos hk] at h1
      obtain ⟨qs, eq, eqk⟩ := keys_kV rp ek
      subst eq
      have hlen := rp.length
      rw [List.length_map] at hlen
      have em : mergeK [] qs = qs := by
        have := merge_new qs [] (by rw [List.map_nil, List.nil_append, eqk]; exact hk.1)
        simpa using this
      refine ⟨e1, qs, rfl, by omega, p, mergeK [] qs, rfl, upd_same, fun P w o es ep vs ho hd rk pr hs => ?_⟩
      rw [upd_upd]
      rw [em] at rk
      have hn1 : p ∉ ι1 := fun z => by
        have := m1.new p z (sr.notin hn)
        rw [upd_same] at this
        cases this
      exact dic_fin sr1 hn1 ((HM.fresh hn).trans m1) hn e1 h1 rp ho hd rk pr hs
    · rw [if_neg hk] at h1
      exact False.elim h1
  · exact False.elim h1
end
end Lr


namespace Lr
open PySem PySem.Spec L2
open PyProof.Rows hiding St

theorem law_run {P : Program} {w : World} {K : PySem.W.Frag} {κ : Nat → Addr} {mg mb : Str → Option Value} {k : Nat} {fa a : Addr} {fd : FuncData} {x : Str} {r : Fn} {s₁ : Shared} {vs : List Value} {ns : List Int} {μ' : Store}
    (KX : K.In s₁.heap) (hns : s₁.heap.Ns mainGlobals mg) (hb : s₁.heap.Ns builtinsNs mb) (hbb : ∀ x : Str, x ≠ "__name__" → mb x = bootBuiltins x) (hlim : s₁.heap.NoLimit) (hsm : s₁.heap.NoSeer) (hg : s₁.gens = #[])
    (ha : s₁.heap.get? a = some { cls := .type "list", data := .seq vs.toArray }) (hi : IntsAre vs ns) (hl : ns.length ≤ sizeLine) (hr : Room k callerA)
    (F : ∀ base : Heap, K.In base → base.Ns mainGlobals mg → (∃ o, base.get? sysModules = some o) → FnD κ P w K mg base k fa fd [x] r) (hbind : ∀ (s : Shared) (u : Value), BindsTo s fd ⟨[u], []⟩ [(x, u)])
    (hok : r [.scr ns] [] = .ok (.bl true) μ') :
    codeAny (model P w) callerA (.call (.ref fa) ⟨[.ref a], []⟩) (fun r s' => r = .ok (.ret (.bool true)) ∧ OldK s₁.heap s'.heap ∧ s'.os = s₁.os ∧ AllBare s'.gens) s₁ := by
  have rv := vals_ints hi
  have lenV := hi.length
  obtain ⟨mm, hmods, _⟩ := hsm.mods
  have core : ∀ H : Hp, Only H → ScL K H a (ns.map V.int) → HOk P w H s₁.heap → (∀ b, H b ≠ none → b = a) → (H a ≠ none → K.lookup a = none) →
      codeAny (model P w) callerA (.call (.ref fa) ⟨[.ref a], []⟩) (fun r s' => r = .ok (.ret (.bool true)) ∧ OldK s₁.heap s'.heap ∧ s'.os = s₁.os ∧ AllBare s'.gens) s₁ := by
    intro H hO hS hok2 hA hK
    have own : ∀ {b : Addr} {o : Obj}, s₁.heap.get? b = some o → H b = none → (hidT s₁.heap H).get? b = some o := fun e n => hidT_get e n
    have dictFree : ∀ {b : Addr} {o : Obj} {es : Array DictEntry} {ep : Nat}, s₁.heap.get? b = some o → o.data = .dict es ep → H b = none := fun {b o es ep} e d => by
      cases q : H b with
      | none => rfl
      | some u =>
        have e' : b = a := hA b (by rw [q]; simp)
        subst e'
        rw [ha] at e
        cases e
        have d' : Data.seq vs.toArray _ = Data.dict es ep := d
        cases d'
    have nsAt : ∀ {b : Addr} {m : Str → Option Value}, s₁.heap.Ns b m → (hidT s₁.heap H).Ns b m := fun {b m} ⟨o, es, ep, e, d, r⟩ => ⟨o, es, ep, own e (dictFree e d), d, r⟩
    have kin : K.In (hidT s₁.heap H) := fun b o e => own (KX b o e) (by
      cases q : H b with
      | none => rfl
      | some u =>
        have e' : b = a := hA b (by rw [q]; simp)
        subst e'
        rw [hK (by rw [q]; simp)] at e
        cases e)
    have mods : ∃ o, (hidT s₁.heap H).get? sysModules = some o := let ⟨o, _, _, e, _⟩ := nsAt hmods; ⟨o, e⟩
    have hM : Mod K mg (hidT s₁.heap H) := ⟨kin, nsAt hns, ⟨mb, nsAt hb, hbb⟩, let ⟨mc, h1, h2⟩ := hlim; ⟨mc, nsAt h1, h2⟩⟩
    have e0 : Env0 P w K mg (hidT s₁.heap H) callerA [] s₁ H := ⟨rfl, hM, fun b o e => of_hidT e, Nat.le_of_eq (hidT_size _ _), trivial, fun b hb => absurd (show b ∈ ([] : List Addr) from hb) (by simp), hok2, .of_eq hg⟩
    refine codeAny_mono ((F _ kin (nsAt hns) mods).run callerA [] s₁ H ⟨[.ref a], []⟩ [.ref a] [.ref a] [.scr ns] [] [] (fun v _ => v = .bl true) (fun _ _ _ => False) hr rfl e0 (hbind s₁ (.ref a)) (.cons rfl .nil) (.cons (.scr hS) .nil) rfl ?_ ?_) fun r s' h => ?_
    · exact ⟨rfl, List.nodup_nil, fun b hb => by simp at hb, fun n q b h1 h2 => by simp at h1⟩
    · rw [hok]
      intro ι' H' _ _ _ v rel
      cases rel
      rfl
    cases r with
    | error e =>
      exfalso
      obtain ⟨_, _, _, _, _, _, _, _, _, h⟩ := h
      exact h.2.2.2
    | ok fl =>
      cases fl with
      | next => exact False.elim h
      | brk => exact False.elim h
      | cont => exact False.elim h
      | ret u =>
        obtain ⟨v, H', os, bare, un, hok', r', q⟩ := h
        have q' : v = .bl true := q
        subst q'
        obtain rfl : u = Value.bool true := r'
        refine ⟨rfl, OldK.of_keep fun b o e => ?_, os, bare⟩
        cases q : H b with
        | none => exact un.keep b o e q (by intro z; exact absurd (show b ∈ ([] : List Addr) from z) (by simp)) (by simp)
        | some u =>
          rcases hO b with z | ⟨ob, xs, z⟩
          · rw [q] at z
            cases z
          · have z2 := un.frzs b ob _ z
            obtain ⟨e1, _⟩ := hok2 b _ z
            obtain ⟨e2, _⟩ := hok' b _ z2
            rw [e] at e1
            cases e1
            exact e2
  cases hk : K.lookup a with
  | some o =>
    have e := KX a o hk
    rw [ha] at e
    cases e
    exact core (fun _ => none) (fun _ => .inl rfl) (.inr (.inr ⟨_, vs.toArray, _, hk, rfl, rfl, rfl, by rw [List.size_toArray, lenV]; exact hl, by simpa using rv⟩)) (fun b u z => by have z' : (none : Option HO) = some u := z; cases z') (fun b z => absurd rfl z) fun z => absurd rfl z
  | none =>
    refine core (fun b => if b = a then some (.frz { cls := .type "list", data := .seq vs.toArray } (.lst (ns.map V.int))) else none) (fun b => ?_) (.inl ⟨{ cls := .type "list", data := .seq vs.toArray }, if_pos rfl⟩) (fun b u z => ?_) (fun b z => ?_) fun _ => hk
    · by_cases hb : b = a
      · exact .inr ⟨_, _, if_pos hb⟩
      · exact .inl (if_neg hb)
    · by_cases hb : b = a
      · have z' := (if_pos hb).symm.trans z
        cases z'
        subst hb
        exact ⟨ha, by rw [List.length_map]; exact hl, vs, _, rv, ha⟩
      · have z' := (if_neg hb).symm.trans z
        cases z'
    · by_cases hb : b = a
      · exact hb
      · exact absurd (if_neg hb) z
theorem Cl.blk {X : Cx} {k : Nat} (c : Cl X k) (s : Shared) (H : Hp) (scope : Scope) (env : Env) (fp : List Addr) : Cl (X.blk s H scope env fp) k := ⟨c.calm, c.nd, c.room, c.gd, c.sm⟩
theorem DN.lcc {κ : Nat → Addr} {X : Cx} {k : Nat} {elt tg iter : Expr} {ifs : List Expr} {scope : Scope} {own : List (Str × Nat)} {it : AI} {is : List Nat} {g : AG} {tt : AT} {te : AE} {pos : Pos} (cl : Cl X k) (hi : DI κ X tg iter it) (ok : BlkOk X.N X.env.scope scope own) (hv : ∀ i ∈ is, i ∈ own.map (·.2))
    (hg : ∀ (s : Shared) (H : Hp) (C : Addr) (d : List (Str × Addr)) (fp : List Addr), Cl (X.blk s H scope (compEnvC scope d C X.env) fp) k → DG κ (X.blk s H scope (compEnvC scope d C X.env) fp) tg is g)
    (ht : ∀ (s : Shared) (H : Hp) (C : Addr) (d : List (Str × Addr)) (fp : List Addr), Cl (X.blk s H scope (compEnvC scope d C X.env) fp) k → PTs (X.blk s H scope (compEnvC scope d C X.env) fp) ifs (kT X.K κ W0 tt))
    (he : ∀ (s : Shared) (H : Hp) (C : Addr) (d : List (Str × Addr)) (fp : List Addr), Cl (X.blk s H scope (compEnvC scope d C X.env) fp) k → DE κ (X.blk s H scope (compEnvC scope d C X.env) fp) elt te) (hs : ∀ x, foldedSetIterable iter X.env x = pure x := by intro _; rfl) :
    DN κ X (.ListComp elt [⟨tg, iter, ifs, 0⟩] scope pos) (aLc it (own.map (·.2)) g tt te) :=
  DN.lc cl hi ok hv (fun s H C d fp => hg s H C d fp (cl.blk s H _ _ fp)) (fun s H C d fp => ht s H C d fp (cl.blk s H _ _ fp)) (fun s H C d fp => he s H C d fp (cl.blk s H _ _ fp)) hs

theorem law_walk {l : PySem.W.OpenLaw} {n k : Nat} {q : Program} {loose : List Str} {XP : (Str → Option Value) → Heap → Prop} {YP : World → Heap → Prop} {d : DefRec} {K : Params → PySem.W.Frag} {x : Str}
    (hn : l.most = some n) (hn2 : n ≤ sizeLine) (hdf : d.params.defaults = []) (hr : Room k callerA) (hq : importsNone q = true)
    (hY : ∀ (w : World) (h : Heap), YP w h → (K w.params).In h)
    (F : ∀ (w : World) (mg : Str → Option Value) (fa : Addr) (h : Heap), (K w.params).In h → h.Ns mainGlobals mg → mg d.name = some (.ref fa) →
      ∃ (fd : FuncData) (κ : Nat → Addr) (r : Fn), (∀ (s : Shared) (u : Value), BindsTo s fd ⟨[u], []⟩ [(x, u)]) ∧ (∀ ns : List Int, ns.length ≤ n → (∀ i ∈ ns, Builtin.Int.intBits i ≤ 1048576) → ∃ μ', r [.scr ns] [] = .ok (.bl true) μ') ∧
        ∀ base : Heap, (K w.params).In base → base.Ns mainGlobals mg → (∃ o, base.get? sysModules = some o) → FnD κ l.prog w (K w.params) mg base k fa fd [x] r) :
    PySem.W.WalkO q loose XP YP l.row.toRowW d [] (fun f vs => PySem.call f vs) := by
  refine Att.attach_callB hn hdf fun w s₀ s₁ mg mb fa o pm cd doc a vs ns G Y ho hd hcd hmg hobj hints hlen hbits hg => ?_
  have KX := hY w _ Y
  obtain ⟨fd, κ, r, hb, hok, hF⟩ := F w mg fa _ KX G.T.g hmg
  obtain ⟨μ', e⟩ := hok ns hlen hbits
  exact law_run KX G.T.g G.T.b G.T.builtins G.T.nolimit (G.T.seer hq) hg hobj hints (Nat.le_trans hlen hn2) hr hF hb e
end Lr


namespace Lr
open PySem PySem.Spec L2
open PyProof.Rows hiding St


def valA (kvs : List (Key × AV)) (k : Key) : Option AV := (kvs.find? fun kv => decide (kv.1 = k)).map (·.2)
def putA (kvs : List (Key × AV)) (k : Key) (v : AV) : List (Key × AV) :=
  if kvs.any fun kv => decide (kv.1 = k) then kvs.map fun kv => if kv.1 = k then (kv.1, v) else kv else kvs ++ [(k, v)]
def mergeA (kvs more : List (Key × AV)) : List (Key × AV) := more.foldl (fun acc kv => putA acc kv.1 kv.2) kvs
section
variable {κ : Nat → Addr} {X : Cx} {a b c e o : Expr} {ra rb rc r : AE} {pos p2 pos' : Pos} {k : Nat} {es : List Expr} {rs : AA}
section
variable {K : PySem.W.Frag} {ι : List Addr} {H : Hp}
theorem RelK.length : ∀ {kvs : List (Key × AV)} {vs : List (Key × V)}, RelK K κ ι H kvs vs → kvs.length = vs.length
  | _, _, .nil => rfl
  | _, _, .cons _ r => by rw [List.length_cons, List.length_cons, RelK.length r]
theorem RelK.keys : ∀ {kvs : List (Key × AV)} {vs : List (Key × V)}, RelK K κ ι H kvs vs → kvs.map (·.1) = vs.map (·.1)
  | _, _, .nil => rfl
  | _, _, .cons h r => by rw [List.map_cons, List.map_cons, h.1, RelK.keys r]
theorem RelK.any (k : Key) : ∀ {kvs : List (Key × AV)} {vs : List (Key × V)}, RelK K κ ι H kvs vs → (kvs.any fun kv => decide (kv.1 = k)) = vs.any fun kv => decide (kv.1 = k)
  | _, _, .nil => rfl
  | _, _, .cons h r => by rw [List.any_cons, List.any_cons, h.1, RelK.any k r]
theorem RelK.append : ∀ {kvs ks : List (Key × AV)} {vs us : List (Key × V)}, RelK K κ ι H kvs vs → RelK K κ ι H ks us → RelK K κ ι H (kvs ++ ks) (vs ++ us)
  | _, _, _, _, .nil, g => g
  | _, _, _, _, .cons h r, g => .cons h (RelK.append r g)
theorem RelK.repl {k : Key} {y : AV} {u : V} (ry : Rel K κ ι H y u) : ∀ {kvs : List (Key × AV)} {vs : List (Key × V)}, RelK K κ ι H kvs vs → RelK K κ ι H (kvs.map fun kv => if kv.1 = k then (kv.1, y) else kv) (vs.map fun kv => if kv.1 = k then (kv.1, u) else kv)
  | _, _, .nil => .nil
  | _, _, .cons (a := p) (b := q) h r => by
    rw [List.map_cons, List.map_cons]
    refine .cons ?_ (RelK.repl ry r)
    by_cases e : p.1 = k
    · rw [if_pos e, if_pos (h.1 ▸ e)]
      exact ⟨h.1, ry⟩
    · rw [if_neg e, if_neg (h.1 ▸ e)]
      exact h
theorem RelK.put {kvs : List (Key × AV)} {vs : List (Key × V)} (r : RelK K κ ι H kvs vs) (k : Key) {y : AV} {u : V} (ry : Rel K κ ι H y u) : RelK K κ ι H (putA kvs k y) (putK vs k u) := by
  unfold putA putK
  rw [r.any k]
  split
  · exact r.repl ry
  · exact r.append (.cons ⟨rfl, ry⟩ .nil)
theorem RelK.merge : ∀ {more : List (Key × AV)} {ms : List (Key × V)} {kvs : List (Key × AV)} {vs : List (Key × V)}, RelK K κ ι H more ms → RelK K κ ι H kvs vs → RelK K κ ι H (mergeA kvs more) (mergeK vs ms)
  | _, _, _, _, .nil, r => r
  | _, _, _, _, .cons (a := p) (b := q) h m, r => by
    have z := r.put p.1 h.2
    rw [h.1] at z
    have w := RelK.merge m z
    show RelK K κ ι H (mergeA (putA _ p.1 p.2) _) (mergeK (putK _ q.1 q.2) _)
    rw [h.1]
    exact w
theorem RelK.val {k : Key} : ∀ {kvs : List (Key × AV)} {vs : List (Key × V)} {v : AV}, RelK K κ ι H kvs vs → valA kvs k = some v → ∃ u, valV vs k = some u ∧ Rel K κ ι H v u
  | _, _, _, .nil, e => by cases e
  | p :: kvs, q :: vs, v, .cons h r, e => by
    by_cases z : p.1 = k
    · have e1 : p.2 = v := by simpa [valA, List.find?_cons, z] using e
      subst e1
      exact ⟨q.2, valV_pos (h.1 ▸ z), h.2⟩
    · have e1 : valA kvs k = some v := by simpa [valA, List.find?_cons, z] using e
      obtain ⟨u, e2, r2⟩ := RelK.val r e1
      exact ⟨u, by rw [valV_neg (h.1 ▸ z)]; exact e2, r2⟩
end

def eDNew : AE := fun _ μ => .ok (.loc μ.length) (μ ++ [.dct []])
theorem DE.dnew : DE κ X (.Dict [] [] pos) eDNew := fun W tk => by
  refine ⟨tDNewK, pe_dnewK, fun σ H Q ι ρ μ sr rl h p hn => ?_⟩
  have h2 := (sr.new (o := .dK []) hn).alloc (a := p) (o := .dct []) ⟨[], upd_same, .nil⟩ (sr.notin hn) (by rw [upd_same]; simp)
  refine h (ι ++ [p]) _ (List.prefix_append _ _) ((HM.fresh hn).more hn) h2 _ (.loc ?_)
  rw [← sr.len]
  simp
abbrev AD := Loc → Store → Res (List (Key × AV))
def DD (κ : Nat → Addr) (X : Cx) (e : Expr) (r : AD) : Prop := ∀ W, Takes X W → ∃ t, PE X e t ∧ ∀ σ H Q ι ρ μ, SR X.K κ ι μ H → RelS X.K κ ι H ρ σ →
  PG X.K κ W σ ι H (fun kvs ι' H' => ∀ (a : Addr) (vs : List (Key × V)), RelK X.K κ ι' H' kvs vs → H' a = some (.dK vs) → a ∉ ι' → H a = none → Q (.ref a) H') (r ρ μ) → t σ H Q
def eDKeep (r : AD) : AE := fun ρ μ => (r ρ μ).bind fun kvs μ1 => .ok (.loc μ1.length) (μ1 ++ [.dct kvs])
theorem DD.new {r : AD} (h : DD κ X e r) : DE κ X e (eDKeep r) := fun W tk => by
  obtain ⟨t, p, i⟩ := h W tk
  refine ⟨t, p, fun σ H Q ι ρ μ sr rl h => ?_⟩
  refine i σ H _ ι ρ μ sr rl (PG.bind0 h fun xs μ1 ι1 H1 p1 m1 sr1 h1 a vs rv ea hn h0 => ?_)
  have h2 : SR X.K κ (ι1 ++ [a]) (μ1 ++ [.dct xs]) H1 := sr1.alloc ⟨vs, ea, rv⟩ hn (by rw [ea]; simp)
  refine h1 (ι1 ++ [a]) H1 (p1.trans (List.prefix_append _ _)) (m1.more h0) h2 _ (.loc ?_)
  rw [← sr1.len]
  simp

def stD (μ : Store) : AV → Option (Nat × List (Key × AV))
  | .loc n => match μ[n]? with
    | some (.dct kvs) => some (n, kvs)
    | _ => none
  | _ => none
theorem stD_rel {K : PySem.W.Frag} {ι : List Addr} {H : Hp} {μ : Store} (sr : SR K κ ι μ H) {a : AV} {x : V} {n : Nat} {kvs : List (Key × AV)} (r : Rel K κ ι H a x) (e : stD μ a = some (n, kvs)) : ∃ p vs, x = .ref p ∧ ι[n]? = some p ∧ H p = some (.dK vs) ∧ RelK K κ ι H kvs vs := by
  cases r <;> first | (cases e; done) | skip
  rename_i m p h
  simp only [stD] at e
  split at e
  · rename_i ys q
    cases e
    obtain ⟨vs, e1, r1⟩ := sr.obj _ _ p q h
    exact ⟨p, vs, rfl, h, e1, r1⟩
  · cases e
theorem dset {K : PySem.W.Frag} {ι : List Addr} {H : Hp} {μ : Store} {n : Nat} {p : Addr} {vs ws : List (Key × V)} {ys : List (Key × AV)} (sr : SR K κ ι μ H) (hp : ι[n]? = some p) (e : H p = some (.dK vs)) (rl : RelK K κ ι H ys ws) :
    HM ι H ι (upd H p (.dK ws)) ∧ SR K κ ι (μ.set n (.dct ys)) (upd H p (.dK ws)) := by
  have m : HM ι H ι (upd H p (.dK ws)) := HM.wr (by rw [e]; trivial) (List.mem_of_getElem? hp)
  exact ⟨m, sr.write hp (by rw [e]; trivial) ⟨ws, upd_same, rl.mono (List.prefix_refl _) m.w⟩⟩
theorem ok_dset {K : PySem.W.Frag} {W : WX} {σ : St} {ι : List Addr} {H : Hp} {Q : VK} {v : AV} {x : V} {μ : Store} {n : Nat} {p : Addr} {vs ws : List (Key × V)} {ys : List (Key × AV)} (sr : SR K κ ι μ H) (hp : ι[n]? = some p) (e : H p = some (.dK vs)) (rl : RelK K κ ι H ys ws) (rv : Rel K κ ι H v x)
    (h : PG K κ W σ ι H (CV K κ Q) (.ok v (μ.set n (.dct ys)))) : Q x (upd H p (.dK ws)) := by
  obtain ⟨m, s⟩ := dset sr hp e rl
  exact h ι _ (List.prefix_refl _) m s x (rv.mono (List.prefix_refl _) m)

def sDPutA (o i r : AE) : AS := fun ρ μ => (r ρ μ).out ρ fun v μ1 => (o ρ μ1).out ρ fun l μ2 => (i ρ μ2).out ρ fun j μ3 => match stD μ3 l, keyOf j with
  | some (n, kvs), some k => if kvs.length < 16777216 then .nx ρ (μ3.set n (.dct (putA kvs k v))) else .bad
  | _, _ => .bad
theorem DS.dput {i : Expr} (cl : Cl X k) (ho : DE κ X o ra) (hi : DE κ X i rb) (hv : DE κ X a rc) (hs : swapsWith a (some (.Subscript o i pos')) pos.line X.env = pure false := by rfl) : DS κ X (.Assign [.Subscript o i pos'] a pos) (sDPutA ra rb rc) := fun W tk => by
  obtain ⟨t1, p1, i1⟩ := ho W tk
  obtain ⟨t2, p2, i2⟩ := hi W tk
  obtain ⟨t3, p3, i3⟩ := hv W tk
  refine ⟨_, ps_dput (by have := cl.room.un; omega) p1 p2 p3 hs, fun D σ H ι ρ μ sr rl h => ?_⟩
  refine i3 σ H _ ι ρ μ sr rl (PO'.bind rl h fun v μ1 ι1 H1 q1 m1 sr1 h1 vv rv => ?_)
  refine i1 σ H1 _ ι1 ρ μ1 sr1 (rl.mono q1 m1) (PO'.bind (rl.mono q1 m1) h1 fun l μ2 ι2 H2 q2 m2 sr2 h2 lv rlv => ?_)
  have rl2 := (rl.mono q1 m1).mono q2 m2
  refine i2 σ H2 _ ι2 ρ μ2 sr2 rl2 (PO'.bind rl2 h2 fun j μ3 ι3 H3 q3 m3 sr3 h3 jv rj => ?_)
  split at h3
  · rename_i n kvs kk e1 ek
    by_cases hz : kvs.length < 16777216
    · rw [if_pos hz] at h3
      obtain ⟨p0, vs, rfl, hq, e2, r2⟩ := stD_rel sr3 (rlv.mono q3 m3) e1
      have ejv := keyOf_kV rj ek
      subst ejv
      have rv3 := (rv.mono q2 m2).mono q3 m3
      refine ⟨p0, _, rfl, DPut.k e2 (by rw [line16, ← r2.length]; exact hz), ?_⟩
      obtain ⟨mm, s⟩ := dset sr3 hq e2 (r2.put kk rv3)
      exact h3 ι3 _ σ (List.prefix_refl _) mm s ((rl2.mono q3 m3).mono (List.prefix_refl _) mm)
    · rw [if_neg hz] at h3
      exact False.elim h3
  · exact False.elim h3

def eDGet (o i : AE) : AE := fun ρ μ => (o ρ μ).bind fun l μ2 => (i ρ μ2).bind fun j μ3 => match stD μ3 l, keyOf j with
  | some (_, kvs), some k => match valA kvs k with
    | some v => .ok v μ3
    | none => .bad
  | _, _ => .bad
theorem DE.dget {i : Expr} (cl : Cl X k) (ho : DE κ X o ra) (hi : DE κ X i rb) (hs : NoSl i := by intro _ _; rfl) : DE κ X (.Subscript o i pos) (eDGet ra rb) := fun W tk => by
  obtain ⟨t1, p1, i1⟩ := ho W tk
  obtain ⟨t2, p2, i2⟩ := hi W tk
  refine ⟨_, pe_dget (by have := cl.room.un; omega) p1 p2 hs, fun σ H Q ι ρ μ sr rl h => ?_⟩
  refine i1 σ H _ ι ρ μ sr rl (PG.bind h fun l μ2 ι2 H2 q2 m2 sr2 h2 lv rlv => ?_)
  refine i2 σ H2 _ ι2 ρ μ2 sr2 (rl.mono q2 m2) (PG.bind h2 fun j μ3 ι3 H3 q3 m3 sr3 h3 jv rj => ?_)
  split at h3
  · rename_i n kvs kk e1 ek
    obtain ⟨p0, vs, rfl, hq, e2, r2⟩ := stD_rel sr3 (rlv.mono q3 m3) e1
    have ejv := keyOf_kV rj ek
    subst ejv
    split at h3
    · rename_i v ev
      obtain ⟨u, eu, ru⟩ := r2.val ev
      refine ⟨p0, u, rfl, ?_, ok1 sr3 h3 ru⟩
      rw [← eu]
      exact DGet.k e2
    · exact False.elim h3
  · exact False.elim h3

def rUpd : V → List V → Hp → VK → Prop := fun x vs H Q => ∃ l b xs zs, x = .ref l ∧ vs = [.ref b] ∧ l ≠ b ∧ H l = some (.dK xs) ∧ H b = some (.dK zs) ∧ xs.length + zs.length ≤ sizeLine ∧ Q .non (upd H l (.dK (mergeK xs zs)))
theorem mt_dupd : MtR X "dict.update" rUpd := by
  intro pins s σ H x vs v us Q I rx rv h
  obtain ⟨l, b, xs, zs, rfl, rfl, hne, hH, hB, hz, q⟩ := h
  cases rx
  obtain ⟨u, rfl, ru⟩ := rv.one
  cases ru
  obtain ⟨z1, hs1, ks1, rk1, d1⟩ := dk_of I.hok hH
  obtain ⟨z2, hs2, ks2, rk2, d2⟩ := dk_of I.hok hB
  refine call_meetsIn F.slot_dict_update d1.typeIs F.entry_dict_update (F.args_dict_update_2 _ _) (meets_dict_update (mixKind X.prog X.w) l b hne hs2) ⟨ks1, ks2, d1, d2, by rw [← rk1.length, ← rk2.length]; exact hz, fun h' d1' d2' sb => ?_⟩
  refine ⟨.non, _, d_write I (by rw [hH]; trivial) sb ?_ ?_, rfl, q⟩
  · obtain ⟨o, es, n, eo, _⟩ := d1'
    exact ⟨o, eo⟩
  · exact dk_new (by have := length_mergeK zs xs; omega) hs1 (KV.merge rk2 rk1) d1'
end
end Lr


namespace Lr
open PySem PySem.Spec L2
open PyProof.Rows hiding St
section
variable {κ : Nat → Addr} {X : Cx} {a b c e o : Expr} {ra rb rc r : AE} {pos p2 pos' : Pos} {k : Nat} {es : List Expr} {rs : AA}
def isDc (μ : Store) (v : AV) : Bool := (stD μ v).isSome
theorem dic_ty {K : PySem.W.Frag} {H : Hp} {x : V} {vs : List (Key × V)} {p : Addr} (e : x = .ref p) (h : H p = some (.dK vs)) : tyV K "dict" x H := by
  subst e
  exact .inr (.inr (.inl ⟨rfl, .inl ⟨vs, h⟩⟩))

def eUpd (o a : AE) : AE := fun ρ μ => (o ρ μ).bind fun l μ1 => if isDc μ1 l then (a ρ μ1).bind fun v μ2 => match stD μ2 l, stD μ2 v with
  | some (n, kvs), some (m, more) => if n ≠ m ∧ kvs.length + more.length ≤ 16777216 then .ok .non (μ2.set n (.dct (mergeA kvs more))) else .bad
  | _, _ => .bad else .bad
theorem DE.upd {apos cpos : Pos} (ho : DE κ X o ra) (ha : DE κ X a rb)
    (hbase : attributeBase o "update" X.env (eval o X.env) = eval o X.env := by rfl)
    (hfew : ((backTo cpos (starEach [a] X.env)).all (fun x => !x.1) && (backToKw cpos (keywordEach [] X.env)).all (fun x => x.1.isSome) && decide ([a].length + ([] : List Keyword).length + (if ([] : List Keyword).isEmpty then 0 else 1) < 30)) = true := by rfl)
    (hline : (apos.endLine == cpos.line) = true := by rfl) (hs : starEach [a] X.env = (false, eval a X.env) :: starEach [] X.env := by rfl) (hplain : (backTo cpos (starEach [] X.env)).any (·.1) = false := by rfl) :
    DE κ X (.Call (.Attribute o "update" apos) [a] [] cpos) (eUpd ra rb) := fun W tk => by
  obtain ⟨t, p, i⟩ := ho W tk
  obtain ⟨u, q, j⟩ := ha W tk
  refine ⟨_, pe_bm PySem.F.plainAttrs_dict PySem.F.slot_dict_update PySem.F.type_dict_update mt_dupd p (pa_cons q pa_nil hs) hbase hfew hline hs hplain, fun σ H Q ι ρ μ sr rl h => ?_⟩
  refine i σ H _ ι ρ μ sr rl (PG.bind h fun l μ1 ι1 H1 p1 m1 sr1 h1 lv rlv => ?_)
  by_cases hl : isDc μ1 l = true
  · rw [if_pos hl] at h1
    obtain ⟨⟨n0, xs0⟩, e0⟩ := Option.isSome_iff_exists.mp hl
    obtain ⟨p0, vs0, ex, _, h0, _⟩ := stD_rel sr1 rlv e0
    refine ⟨dic_ty ex h0, ?_⟩
    refine j σ H1 _ ι1 ρ μ1 sr1 (rl.mono p1 m1) (PG.bind h1 fun v μ2 ι2 H2 p2 m2 sr2 h2 vv rv => ?_)
    show rUpd _ [vv] H2 Q
    split at h2
    · rename_i n kvs m more e1 e3
      by_cases hz : n ≠ m ∧ kvs.length + more.length ≤ 16777216
      · rw [if_pos hz] at h2
        obtain ⟨q1, vs, rfl, hq, e2, r2⟩ := stD_rel sr2 (rlv.mono p2 m2) e1
        obtain ⟨q2, ws, rfl, hq2, e4, r4⟩ := stD_rel sr2 rv e3
        refine ⟨q1, q2, vs, ws, rfl, rfl, fun z => ?_, e2, e4, by rw [line16, ← r2.length, ← r4.length]; exact hz.2, ok_dset sr2 hq e2 (r4.merge r2) .non h2⟩
        subst z
        exact hz.1 (L2.nd_ix sr2.nd hq hq2)
      · rw [if_neg hz] at h2
        exact False.elim h2
    · exact False.elim h2
  · rw [if_neg hl] at h1
    exact False.elim h1


section
variable {kx vx tg iter : Expr} {ifs : List Expr} {scope : Scope} {own : List (Str × Nat)} {it : AI} {is : List Nat} {g : AG} {tt : AT} {tk tv : AE}
def dcF (g : AG) (tt : AT) (tk tv : AE) (src : Src) : Nat → Nat → Loc → List (Key × AV) → Store → Res (List (Key × AV))
  | 0, _, _, _, _ => .bad
  | m + 1, i, ρ, acc, μ => match src.at i μ with
    | none => .bad
    | some none => .ok acc μ
    | some (some v) => match g v ρ with
      | none => .bad
      | some ρ1 => (tt ρ1 μ).nox.bind fun b μ1 => if b then (tk ρ1 μ1).nox.bind fun y μ2 => (tv ρ1 μ2).nox.bind fun z μ3 => match keyOf y with
          | some k => if acc.length < 16777216 then dcF g tt tk tv src m (i + 1) ρ (putA acc k z) μ3 else .bad
          | none => .bad
        else dcF g tt tk tv src m (i + 1) ρ acc μ1
def aDc (it : AI) (vs : List Nat) (g : AG) (tt : AT) (tk tv : AE) : AD := fun ρ μ => (it ρ μ).bind fun src μ1 => dcF g tt tk tv src FUEL 0 (wipeA ρ vs) [] μ1
theorem im_dc {wi : TI} {W : WX} {vs : List Nat} (hv : ∀ i ∈ is, i ∈ vs) (hw : ∀ (σ : St) (H : Hp) (R : It → Hp → Prop) (ι : List Addr) (ρ : Loc) (μ : Store), SR X.K κ ι μ H → RelS X.K κ ι H ρ σ → PG X.K κ W σ ι H (fun src ι' H' => ∀ J, JR X.K κ ι' H' src J → R J H') (it ρ μ) → wi σ H R) :
    ∀ σ H Q ι ρ μ, SR X.K κ ι μ H → RelS X.K κ ι H ρ σ → PG X.K κ W σ ι H (fun kvs ι' H' => ∀ (a : Addr) (xs : List (Key × V)), RelK X.K κ ι' H' kvs xs → H' a = some (.dK xs) → a ∉ ι' → H a = none → Q (.ref a) H') (aDc it vs g tt tk tv ρ μ) →
      tDc wi (kG X.K κ is g) (kT X.K κ W0 tt) (kE X.K κ W0 tk) (kE X.K κ W0 tv) vs σ H Q := fun σ H Q ι ρ μ sr rl h => by
  refine hw σ H _ ι ρ μ sr rl (PG.bind0 h fun src μ1 ι1 H1 p1 m1 sr1 h1 J hJ D hD => ?_)
  have hD0 : H D = none := by
    cases e : H D with
    | none => rfl
    | some u =>
      by_cases z : D ∈ ι
      · exact absurd hD (sr1.on D (p1.subset z))
      · rw [m1.oth D u z e] at hD; cases hD
  refine ⟨fun i m H' => ∃ (ι' : List Addr) (acc : List (Key × AV)) (av : List (Key × V)) (μ' : Store), HM ι1 H1 ι' H' ∧ SR X.K κ ι' μ' H' ∧ D ∉ ι' ∧ H' D = some (.dK av) ∧ RelK X.K κ ι' H' acc av ∧
    PG X.K κ W σ ι H (fun kvs ι' H' => ∀ (a : Addr) (xs : List (Key × V)), RelK X.K κ ι' H' kvs xs → H' a = some (.dK xs) → a ∉ ι' → H a = none → Q (.ref a) H') (dcF g tt tk tv src m i (wipeA ρ vs) acc μ'),
    ⟨FUEL, ι1, [], [], μ1, HM.fresh hD, sr1.new hD, sr1.notin hD, upd_same, .nil, h1⟩, ?_⟩
  rintro i m H' ⟨ι', acc, av, μ', hm, sr', hn, eD, ra, h'⟩
  cases m with
  | zero => exact False.elim h'
  | succ m =>
    have hj := hJ i ι' H' μ' hm sr'
    unfold dcF at h'
    cases e : src.at i μ' with
    | none => rw [e] at h'; exact False.elim h'
    | some o =>
      rw [e] at h' hj
      cases o with
      | none => exact .inl ⟨hj, h' ι' H' (p1.trans hm.pre) (m1.trans hm) sr' D av ra eD hn hD0⟩
      | some v =>
        simp only at h' hj
        cases eg : g v (wipeA ρ vs) with
        | none => rw [eg] at h'; exact False.elim h'
        | some ρ1 =>
          rw [eg] at h'
          simp only at h'
          refine .inr ⟨hj.1, fun H2 => ∃ (ι2 : List Addr) (acc2 : List (Key × AV)) (av2 : List (Key × V)) (μ2 : Store), HM ι1 H1 ι2 H2 ∧ SR X.K κ ι2 μ2 H2 ∧ D ∉ ι2 ∧ H2 D = some (.dK av2) ∧ RelK X.K κ ι2 H2 acc2 av2 ∧
            PG X.K κ W σ ι H (fun kvs ι' H' => ∀ (a : Addr) (xs : List (Key × V)), RelK X.K κ ι' H' kvs xs → H' a = some (.dK xs) → a ∉ ι' → H a = none → Q (.ref a) H') (dcF g tt tk tv src m (i + 1) (wipeA ρ vs) acc2 μ2), fun H2 z => ⟨m, Nat.lt_succ_self _, z⟩, fun x H2 hy => ?_⟩
          obtain ⟨m2, sr2, rx⟩ := hj.2 x H2 hy
          have rw2 : RelS X.K κ ι' H2 (wipeA ρ vs) (L2.wipe σ vs) := ((rl.mono p1 m1).mono hm.pre hm).wipe vs |>.mono (List.prefix_refl _) m2
          refine ⟨ι', v, wipeA ρ vs, ρ1, rw2, rx, eg, fun σ2 rl2 hwp => ⟨?_, ?_⟩⟩
          · have z := hwp vs hv
            rw [z]
            exact wipe_twice
          · refine ⟨ι', ρ1, μ', sr2, rl2, PG.nox (PG.bindF (m1.trans (hm.trans m2)) h' fun b μ3 ι3 H3 p3 m3 sr3 h3 => ?_)⟩
            have hm3 := (hm.trans m2).trans m3
            have eD2 : H2 D = some (.dK av) := m2.oth D _ hn eD
            have eD3 : H3 D = some (.dK av) := m3.oth D _ hn eD2
            have hn3 : D ∉ ι3 := fun z => by
              have := m3.new D z hn
              rw [eD2] at this; cases this
            cases b with
            | false =>
              refine iteF ⟨ι3, acc, av, μ3, hm3, sr3, hn3, eD3, (ra.mono (List.prefix_refl _) m2.w).mono p3 m3.w, ?_⟩
              simpa using h3
            | true =>
              refine iteT ⟨ι3, ρ1, μ3, sr3, rl2.mono p3 m3, PG.nox (PG.bindF (m1.trans hm3) h3 fun y μ4 ι4 H4 p4 m4 sr4 h4 yv ry => ?_)⟩
              have eD4 : H4 D = some (.dK av) := m4.oth D _ hn3 eD3
              have hn4 : D ∉ ι4 := fun z => by
                have := m4.new D z hn3
                rw [eD3] at this; cases this
              have hm4 := hm3.trans m4
              refine ⟨ι4, ρ1, μ4, sr4, (rl2.mono p3 m3).mono p4 m4, PG.nox (PG.bindF (m1.trans hm4) h4 fun z μ5 ι5 H5 p5 m5 sr5 h5 zv rz => ?_)⟩
              have eD5 : H5 D = some (.dK av) := m5.oth D _ hn4 eD4
              have hn5 : D ∉ ι5 := fun z => by
                have := m5.new D z hn4
                rw [eD4] at this; cases this
              have hm5 := hm4.trans m5
              split at h5
              · rename_i kk ek
                by_cases hz : acc.length < 16777216
                · rw [if_pos hz] at h5
                  have ra5 := (((ra.mono (List.prefix_refl _) m2.w).mono p3 m3.w).mono p4 m4.w).mono p5 m5.w
                  have mu : Mut (H5 D) := by rw [eD5]; trivial
                  have m6 : HM ι1 H1 ι5 (upd H5 D (.dK (putK av kk zv))) := hm5.mine mu (.inl hD)
                  have w6 : HW H5 (upd H5 D (.dK (putK av kk zv))) := (HM.mine (HM.refl (ι := [D]) H5) mu (.inr (by simp))).w
                  exact ⟨av, kk, keyOf_kV ry ek, eD5, by rw [line16, ← ra5.length]; exact hz, ι5, putA acc kk z, putK av kk zv, μ5, m6, sr5.other w6 hn5, hn5, upd_same, (ra5.put kk rz).mono (List.prefix_refl _) w6, h5⟩
                · rw [if_neg hz] at h5
                  exact False.elim h5
              · exact False.elim h5
theorem DD.dc (cl : Cl X k) (hi : DI κ X tg iter it) (ok : BlkOk X.N X.env.scope scope own) (hv : ∀ i ∈ is, i ∈ own.map (·.2))
    (hg : ∀ (s : Shared) (H : Hp) (C : Addr) (cl : List (Str × Addr)) (fp : List Addr), DG κ (X.blk s H scope (compEnvC scope cl C X.env) fp) tg is g) (ht : ∀ (s : Shared) (H : Hp) (C : Addr) (cl : List (Str × Addr)) (fp : List Addr), PTs (X.blk s H scope (compEnvC scope cl C X.env) fp) ifs (kT X.K κ W0 tt))
    (hk : ∀ (s : Shared) (H : Hp) (C : Addr) (cl : List (Str × Addr)) (fp : List Addr), DE κ (X.blk s H scope (compEnvC scope cl C X.env) fp) kx tk)
    (he : ∀ (s : Shared) (H : Hp) (C : Addr) (cl : List (Str × Addr)) (fp : List Addr), DE κ (X.blk s H scope (compEnvC scope cl C X.env) fp) vx tv) (hs : ∀ x, foldedSetIterable iter X.env x = pure x := by intro _; rfl) :
    DD κ X (.DictComp kx vx [⟨tg, iter, ifs, 0⟩] scope pos) (aDc it (own.map (·.2)) g tt tk tv) := fun W tk0 => by
  obtain ⟨wi, p0, i0⟩ := hi W tk0
  exact ⟨_, pe_dc cl.calm cl.nd p0 ok (fun s H C cl fp => (hg s H C cl fp).kan) ht (fun s H C cl fp => (hk s H C cl fp).kan takes0) (fun s H C cl fp => (he s H C cl fp).kan takes0) hs, im_dc hv i0⟩
theorem DD.dcc (cl : Cl X k) (hi : DI κ X tg iter it) (ok : BlkOk X.N X.env.scope scope own) (hv : ∀ i ∈ is, i ∈ own.map (·.2))
    (hg : ∀ (s : Shared) (H : Hp) (C : Addr) (d : List (Str × Addr)) (fp : List Addr), Cl (X.blk s H scope (compEnvC scope d C X.env) fp) k → DG κ (X.blk s H scope (compEnvC scope d C X.env) fp) tg is g)
    (ht : ∀ (s : Shared) (H : Hp) (C : Addr) (d : List (Str × Addr)) (fp : List Addr), Cl (X.blk s H scope (compEnvC scope d C X.env) fp) k → PTs (X.blk s H scope (compEnvC scope d C X.env) fp) ifs (kT X.K κ W0 tt))
    (hk : ∀ (s : Shared) (H : Hp) (C : Addr) (d : List (Str × Addr)) (fp : List Addr), Cl (X.blk s H scope (compEnvC scope d C X.env) fp) k → DE κ (X.blk s H scope (compEnvC scope d C X.env) fp) kx tk)
    (he : ∀ (s : Shared) (H : Hp) (C : Addr) (d : List (Str × Addr)) (fp : List Addr), Cl (X.blk s H scope (compEnvC scope d C X.env) fp) k → DE κ (X.blk s H scope (compEnvC scope d C X.env) fp) vx tv) (hs : ∀ x, foldedSetIterable iter X.env x = pure x := by intro _; rfl) :
    DD κ X (.DictComp kx vx [⟨tg, iter, ifs, 0⟩] scope pos) (aDc it (own.map (·.2)) g tt tk tv) :=
  DD.dc cl hi ok hv (fun s H C d fp => hg s H C d fp (cl.blk s H _ _ fp)) (fun s H C d fp => ht s H C d fp (cl.blk s H _ _ fp)) (fun s H C d fp => hk s H C d fp (cl.blk s H _ _ fp)) (fun s H C d fp => he s H C d fp (cl.blk s H _ _ fp)) hs
end
end
end Lr


namespace Lr
open PySem PySem.Spec L2
open PyProof.Rows hiding St
section
variable {κ : Nat → Addr} {X : Cx} {a b c e o : Expr} {ra rb rc r : AE} {pos p2 pos' : Pos} {k : Nat} {es : List Expr} {rs : AA}

def intsOf : List AV → Option (List Int)
  | [] => some []
  | .int b :: r => (intsOf r).map (b :: ·)
  | _ => none
theorem ints_map : ∀ {xs : List AV} {bs : List Int}, intsOf xs = some bs → xs = bs.map AV.int
  | [], bs, e => by cases e; rfl
  | x :: xs, bs, e => by
    cases x <;> simp only [intsOf] at e <;> first | (cases e; done) | skip
    cases h : intsOf xs with
    | none => rw [h] at e; cases e
    | some cs =>
      rw [h] at e
      cases e
      rw [List.map_cons, ints_map h]
theorem ints_rel {K : PySem.W.Frag} {ι : List Addr} {H : Hp} : ∀ {ns : List Int} {vs : List V}, RelL K κ ι H (ns.map AV.int) vs → vs = ns.map V.int
  | [], _, h => by cases h; rfl
  | n :: ns, _, h => by
    cases h with
    | cons h1 h2 =>
      cases h1
      rw [ints_rel h2]
      rfl
def gSum : Fn := fun as μ => match as with
  | [x] => match lsOf μ x with
    | some xs => match intsOf xs with
      | some ns => .ok (.int ns.sum) μ
      | none => .bad
    | none => .bad
  | _ => .bad
theorem ca_sum (cl : Cl X k) : CallA κ X (.builtin "sum") gSum := fun W tk pins s σ H xs us Q I r hh => by
  obtain ⟨σ0, ι, μ, as, sr, rl, h⟩ := hh
  unfold gSum at h
  split at h <;> first | exact False.elim h | skip
  split at h <;> first | exact False.elim h | skip
  rename_i x _ ys e1
  split at h <;> first | exact False.elim h | skip
  rename_i ns e2
  cases rl with
  | cons r1 r2 =>
    cases r2
    obtain ⟨p, vs, rfl, hq, rl⟩ := ls_rel sr r1 e1
    have e3 := ints_map e2
    subst e3
    have e4 := ints_rel rl
    subst e4
    exact cr_sum cl.calm pins s σ H _ us Q I r ⟨p, ns, rfl, hq, ok1 sr h (.int _)⟩

def leS (a b : Str) : Bool := !ltCps b.cps.toList a.cps.toList
theorem leS_iff {a b : Str} : leS a b = true ↔ a.cps.toList ≤ b.cps.toList := by
  unfold leS
  rw [ltCps_eq, Bool.not_eq_true', decide_eq_false_iff_not]
  exact Iff.rfl
theorem leS_trans (a b c : Str) (h : leS a b = true) (g : leS b c = true) : leS a c = true := leS_iff.mpr (List.le_trans (leS_iff.mp h) (leS_iff.mp g))
theorem leS_total (a b : Str) : (leS a b || leS b a) = true := by
  rw [Bool.or_eq_true]
  rcases List.le_total a.cps.toList b.cps.toList with h | h
  · exact .inl (leS_iff.mpr h)
  · exact .inr (leS_iff.mpr h)
theorem leS_anti {a b : Str} (h : leS a b = true) (g : leS b a = true) : a = b := by
  have e := List.le_antisymm (leS_iff.mp h) (leS_iff.mp g)
  cases a
  cases b
  congr
  exact Array.toList_inj.mp e
def sortS (ks : List Str) : List Str := ks.mergeSort leS
theorem rising_pw : ∀ (p : Str) (l : List Str), risingS p l = true → (p :: l).Pairwise (fun a b => leS a b = true)
  | p, [], _ => by simp
  | p, x :: l, h => by
    simp only [risingS, Bool.and_eq_true] at h
    have ih := rising_pw x l h.2
    refine List.pairwise_cons.mpr ⟨fun y hy => ?_, ih⟩
    rcases List.mem_cons.mp hy with hy | hy
    · rw [hy]
      exact h.1
    · exact leS_trans p x y h.1 ((List.pairwise_cons.mp ih).1 y hy)
theorem sorted_pw : ∀ {l : List Str}, sortedS l = true → l.Pairwise (fun a b => leS a b = true)
  | [], _ => .nil
  | x :: l, h => rising_pw x l h
theorem sorted_eq {ys ks : List Str} (h : ys.Perm ks) (g : sortedS ys = true) : ys = sortS ks :=
  List.Perm.eq_of_pairwise (le := fun a b => leS a b = true) (fun _ _ _ _ h g => leS_anti h g) (sorted_pw g) (List.pairwise_mergeSort leS_trans leS_total ks) (h.trans (List.mergeSort_perm ks leS).symm)
def strsOf : List Key → Option (List Str)
  | [] => some []
  | .inr x :: r => (strsOf r).map (x :: ·)
  | _ => none
theorem strs_map : ∀ {ks : List Key} {xs : List Str}, strsOf ks = some xs → ks = xs.map Sum.inr
  | [], xs, e => by cases e; rfl
  | k :: ks, xs, e => by
    cases k <;> simp only [strsOf] at e <;> first | (cases e; done) | skip
    cases h : strsOf ks with
    | none => rw [h] at e; cases e
    | some cs =>
      rw [h] at e
      cases e
      rw [List.map_cons, strs_map h]
theorem strs_rel {K : PySem.W.Frag} {ι : List Addr} {H : Hp} : ∀ (ns : List Str), RelL K κ ι H (ns.map AV.str) (ns.map V.str)
  | [] => .nil
  | n :: ns => .cons (.str n) (strs_rel ns)

def gSortD : FnN := fun as μ => match as with
  | [x] => match stD μ x with
    | some (_, kvs) => match strsOf (kvs.map (·.1)) with
      | some ks => if ks.length < 64 then .ok ((sortS ks).map AV.str) μ else .bad
      | none => .bad
    | none => .bad
  | _ => .bad
theorem cn_sortD (cl : Cl X k) : CallN κ X (.builtin "sorted") gSortD := fun W tk pins s σ H xs us Q I r hh => by
  obtain ⟨σ0, ι₀, H₀, μ₀, ι, μ, as, sr₀, m, sr, rl, h⟩ := hh
  unfold gSortD at h
  split at h <;> first | exact False.elim h | skip
  split at h <;> first | exact False.elim h | skip
  rename_i x _ n kvs e1
  split at h <;> first | exact False.elim h | skip
  rename_i ks e2
  cases rl with
  | cons r1 r2 =>
    cases r2
    obtain ⟨p, vs, rfl, hq, he, rk⟩ := stD_rel sr r1 e1
    by_cases hz : ks.length < 64
    · rw [if_pos hz] at h
      have e3 := strs_map e2
      refine call_sortedD cl.calm pins s σ H _ us Q I r ⟨p, vs, ks, rfl, .inl he, by rw [← rk.keys]; exact e3, hz, fun ys q hp hs hn => ?_⟩
      rw [sorted_eq hp hs]
      exact okNew sr₀ sr m h (strs_rel _) hn
    · rw [if_neg hz] at h
      exact False.elim h

def ePop0 (o : AE) : AE := fun ρ μ => (o ρ μ).bind fun l μ1 => match stL μ1 l with
  | some (n, xs) => match xs[xs.length - 1]? with
    | some y => .ok y (μ1.set n (.lst xs.dropLast))
    | none => .bad
  | none => .bad
theorem RelL.dropLast {K : PySem.W.Frag} {ι : List Addr} {H : Hp} {xs : List AV} {vs : List V} (r : RelL K κ ι H xs vs) : RelL K κ ι H xs.dropLast vs.dropLast := by
  rw [List.dropLast_eq_take, List.dropLast_eq_take, r.length]
  exact r.take _
theorem RelL.erase {K : PySem.W.Frag} {ι : List Addr} {H : Hp} {xs : List AV} {vs : List V} (r : RelL K κ ι H xs vs) (j : Nat) : RelL K κ ι H (xs.eraseIdx j) (vs.eraseIdx j) := by
  rw [List.eraseIdx_eq_take_drop_succ, List.eraseIdx_eq_take_drop_succ]
  exact (r.take _).append (r.drop _)
theorem DE.pop0 {apos cpos : Pos} (ho : DE κ X o ra) (hbase : attributeBase o "pop" X.env (eval o X.env) = eval o X.env := by rfl) (hline : (apos.endLine == cpos.line) = true := by rfl) :
    DE κ X (.Call (.Attribute o "pop" apos) [] [] cpos) (ePop0 ra) := fun W tk => by
  obtain ⟨t, p, i⟩ := ho W tk
  refine ⟨_, pe_bm0 PySem.F.plainAttrs_list PySem.F.slot_list_pop PySem.F.type_list_pop mt_pop p hbase hline, fun σ H Q ι ρ μ sr rl h => ?_⟩
  refine i σ H _ ι ρ μ sr rl (PG.bind h fun l μ1 ι1 H1 p1 m1 sr1 h1 lv rlv => ?_)
  split at h1
  · rename_i n xs e1
    obtain ⟨p0, vs, rfl, hq, e2, r2⟩ := stL_rel sr1 rlv e1
    split at h1
    · rename_i y ey
      refine ⟨lst_ty (ι := ι1) (ι' := ι1) (H' := H1) rfl (.inl (.inl e2)), ?_⟩
      obtain ⟨u, eu, ru⟩ := r2.get ey
      exact ⟨p0, vs, u, rfl, rfl, e2, by rw [← r2.length]; exact eu, ok_lset sr1 hq e2 r2.dropLast ru h1⟩
    · exact False.elim h1
  · exact False.elim h1
def ePop1 (o a : AE) : AE := fun ρ μ => (o ρ μ).bind fun l μ1 => if isLs μ1 l then (a ρ μ1).bind fun v μ2 => match stL μ2 l, v with
  | some (n, xs), .int i => match ixN xs.length i with
    | some j => if xs.length ≤ 16777216 then match xs[j]? with
      | some y => .ok y (μ2.set n (.lst (xs.eraseIdx j)))
      | none => .bad else .bad
    | none => .bad
  | _, _ => .bad else .bad
theorem DE.pop1 {apos cpos : Pos} (ho : DE κ X o ra) (ha : DE κ X a rb)
    (hbase : attributeBase o "pop" X.env (eval o X.env) = eval o X.env := by rfl)
    (hfew : ((backTo cpos (starEach [a] X.env)).all (fun x => !x.1) && (backToKw cpos (keywordEach [] X.env)).all (fun x => x.1.isSome) && decide ([a].length + ([] : List Keyword).length + (if ([] : List Keyword).isEmpty then 0 else 1) < 30)) = true := by rfl)
    (hline : (apos.endLine == cpos.line) = true := by rfl) (hs : starEach [a] X.env = (false, eval a X.env) :: starEach [] X.env := by rfl) (hplain : (backTo cpos (starEach [] X.env)).any (·.1) = false := by rfl) :
    DE κ X (.Call (.Attribute o "pop" apos) [a] [] cpos) (ePop1 ra rb) := fun W tk => by
  obtain ⟨t, p, i⟩ := ho W tk
  obtain ⟨u, q, j⟩ := ha W tk
  refine ⟨_, pe_bm PySem.F.plainAttrs_list PySem.F.slot_list_pop PySem.F.type_list_pop mt_popAt p (pa_cons q pa_nil hs) hbase hfew hline hs hplain, fun σ H Q ι ρ μ sr rl h => ?_⟩
  refine i σ H _ ι ρ μ sr rl (PG.bind h fun l μ1 ι1 H1 p1 m1 sr1 h1 lv rlv => ?_)
  by_cases hl : isLs μ1 l = true
  · rw [if_pos hl] at h1
    obtain ⟨xs0, e0⟩ := Option.isSome_iff_exists.mp hl
    obtain ⟨p0, vs0, ex, h0, _⟩ := ls_rel sr1 rlv e0
    refine ⟨lst_ty (ι := ι1) (ι' := ι1) (H' := H1) ex h0, ?_⟩
    refine j σ H1 _ ι1 ρ μ1 sr1 (rl.mono p1 m1) (PG.bind h1 fun v μ2 ι2 H2 p2 m2 sr2 h2 vv rv => ?_)
    show rPopAt _ [vv] H2 Q
    split at h2
    · rename_i n xs ii e1
      cases rv
      split at h2
      · rename_i jj ej
        by_cases hz : xs.length ≤ 16777216
        · rw [if_pos hz] at h2
          split at h2
          · rename_i y ey
            obtain ⟨q1, vs, rfl, hq, e2, r2⟩ := stL_rel sr2 (rlv.mono p2 m2) e1
            obtain ⟨z1, z2, z3, z4⟩ := ixN_seq ej
            obtain ⟨u, eu, ru⟩ := r2.get ey
            exact ⟨q1, vs, ii, jj, u, rfl, rfl, e2, by omega, by omega, by rw [← r2.length]; exact z1, eu, ok_lset sr2 hq e2 (r2.erase jj) ru h2⟩
          · exact False.elim h2
        · rw [if_neg hz] at h2
          exact False.elim h2
      · exact False.elim h2
    · exact False.elim h2
  · rw [if_neg hl] at h1
    exact False.elim h1
end
end Lr


namespace Lr
open PySem PySem.Spec L2
open PyProof.Rows hiding St
section
variable {κ : Nat → Addr} {X : Cx} {k : Nat}
theorem ps_low {st : Stmt} {t : TS} (c : Cl X k) (h : PS X st t) : PS X st (fun D σ H => t { D with nx := fun σ1 H1 => (∀ p u, H1 p = some u → p ≠ sysModules) → D.nx σ1 H1 } σ H) := by
  refine ⟨fun pins s σ H D I hw => ?_⟩
  refine thn (h.run pins s σ H _ I hw) fun f s1 hf => ?_
  cases f with
  | next =>
    obtain ⟨σ1, H1, I1, q⟩ := hf
    refine ⟨σ1, H1, I1, q fun p u hp z => ?_⟩
    subst z
    obtain ⟨o, ho⟩ := c.sm
    have := (I1.bs _ o ho).2
    rw [hp] at this
    cases this
  | brk => exact hf
  | cont => exact hf
  | ret u => exact hf
theorem ps_fz {st : Stmt} {t : TS} (h : PS X st t) : PS X st (fun D σ H => t { D with nx := fun σ1 H1 => ∃ p vs, H1 p = some (.lst vs) ∧ ∀ o, D.nx σ1 (upd H1 p (.frz o (.lst vs))) } σ H) := by
  refine ⟨fun pins s σ H D I hw => ?_⟩
  refine thn (h.run pins s σ H _ I hw) fun f s1 hf => ?_
  cases f with
  | next =>
    obtain ⟨σ1, H1, I1, p, vs, ep, q⟩ := hf
    obtain ⟨o, I2⟩ := inv_frz I1 ep
    exact ⟨σ1, _, I2, q o⟩
  | brk => exact hf
  | cont => exact hf
  | ret u => exact hf
theorem RelS.monoW {K : PySem.W.Frag} {ι ι' : List Addr} {H H' : Hp} (p : ι <+: ι') (m : HW H H') {ρ : Loc} {σ : St} (r : RelS K κ ι H ρ σ) : RelS K κ ι' H' ρ σ :=
  ⟨r.1, fun i v e => let ⟨x, e1, r1⟩ := r.2 i v e; ⟨x, e1, r1.monoW p m⟩⟩
variable {y : Str} {py spos pos : Pos} {elt tg iter : Expr} {ifs : List Expr} {scope : Scope} {own : List (Str × Nat)} {it : AI} {is : List Nat} {g : AG} {tt : AT} {te : AE} {i : Nat}
theorem DS.setLcN (cl : Cl X k) (hN : X.N[i]? = some y) (hy : X.env.scope.names.lookup y = some .local) (hsw : swapsWith (.ListComp elt [⟨tg, iter, ifs, 0⟩] scope pos) (some (.Name y py)) spos.line X.env = pure true)
    (hi : DI κ X tg iter it) (ok : BlkOk X.N X.env.scope scope own) (hv : ∀ i ∈ is, i ∈ own.map (·.2))
    (hg : ∀ (s : Shared) (H : Hp) (C : Addr) (d : List (Str × Addr)) (fp : List Addr), Cl (X.blk s H scope (compEnvC scope d C X.env) fp) k → DG κ (X.blk s H scope (compEnvC scope d C X.env) fp) tg is g)
    (ht : ∀ (s : Shared) (H : Hp) (C : Addr) (d : List (Str × Addr)) (fp : List Addr), Cl (X.blk s H scope (compEnvC scope d C X.env) fp) k → PTs (X.blk s H scope (compEnvC scope d C X.env) fp) ifs (kT X.K κ W0 tt))
    (he : ∀ (s : Shared) (H : Hp) (C : Addr) (d : List (Str × Addr)) (fp : List Addr), Cl (X.blk s H scope (compEnvC scope d C X.env) fp) k → DE κ (X.blk s H scope (compEnvC scope d C X.env) fp) elt te) (hs : ∀ x, foldedSetIterable iter X.env x = pure x := by intro _; rfl) :
    DS κ X (.Assign [.Name y py] (.ListComp elt [⟨tg, iter, ifs, 0⟩] scope pos) spos) (sSet i (eNew (aLc it (own.map (·.2)) g tt te))) := fun W tk => by
  obtain ⟨wi, p0, i0⟩ := hi W tk
  have rule : PS X _ (tAsg (tLc wi (kG X.K κ is g) (kT X.K κ W0 tt) (kE X.K κ W0 te) (own.map (·.2))) (gName i)) := ps_setLc cl.calm cl.nd hN hy hsw p0 ok (fun s H C d fp => (hg s H C d fp (cl.blk s H _ _ fp)).kan) (fun s H C d fp => ht s H C d fp (cl.blk s H _ _ fp)) (fun s H C d fp => (he s H C d fp (cl.blk s H _ _ fp)).kan takes0) hs
  refine ⟨_, rule, fun D σ H ι ρ μ sr rl h => ?_⟩
  refine im_lc hv i0 σ H _ ι ρ μ sr rl ?_
  unfold sSet eNew at h
  revert h
  cases aLc it (own.map (·.2)) g tt te ρ μ with
  | bad => exact id
  | ex c p μ1 => exact fun h ι' H' d q n s e => h ι' H' σ d q n s (rl.mono q n) e
  | ok vs μ1 =>
    intro h ι' H' q n s a xs rx e hn h0
    have h2 : SR X.K κ (ι' ++ [a]) (μ1 ++ [.lst vs]) H' := s.alloc ⟨xs, e, rx⟩ hn (by rw [e]; simp)
    exact h (ι' ++ [a]) H' _ (q.trans (List.prefix_append _ _)) (n.more h0) h2 ((rl.monoW (q.trans (List.prefix_append _ _)) n.w).set (.loc (by rw [← s.len]; simp)))
theorem DS.setLcD (cl : Cl X k) (hN : X.N[i]? = some y) (hy : X.env.scope.names.lookup y = some .local) (hsw : swapsWith (.ListComp elt [⟨tg, iter, ifs, 0⟩] scope pos) (some (.Name y py)) spos.line X.env = pure true)
    (hi : DI κ X tg iter it) (ok : BlkOk X.N X.env.scope scope own) (hv : ∀ i ∈ is, i ∈ own.map (·.2))
    (hg : ∀ (s : Shared) (H : Hp) (C : Addr) (d : List (Str × Addr)) (fp : List Addr), Cl (X.blk s H scope (compEnvC scope d C X.env) fp) k → DG κ (X.blk s H scope (compEnvC scope d C X.env) fp) tg is g)
    (ht : ∀ (s : Shared) (H : Hp) (C : Addr) (d : List (Str × Addr)) (fp : List Addr), Cl (X.blk s H scope (compEnvC scope d C X.env) fp) k → PTs (X.blk s H scope (compEnvC scope d C X.env) fp) ifs (kT X.K κ W0 tt))
    (he : ∀ (s : Shared) (H : Hp) (C : Addr) (d : List (Str × Addr)) (fp : List Addr), Cl (X.blk s H scope (compEnvC scope d C X.env) fp) k → DE κ (X.blk s H scope (compEnvC scope d C X.env) fp) elt te) (hs : ∀ x, foldedSetIterable iter X.env x = pure x := by intro _; rfl) :
    DS κ X (.Assign [.Name y py] (.ListComp elt [⟨tg, iter, ifs, 0⟩] scope pos) spos) (sSet i (eDat (aLc it (own.map (·.2)) g tt te))) := fun W tk => by
  obtain ⟨wi, p0, i0⟩ := hi W tk
  have rule : PS X _ (tAsg (tLc wi (kG X.K κ is g) (kT X.K κ W0 tt) (kE X.K κ W0 te) (own.map (·.2))) (gName i)) := ps_setLc cl.calm cl.nd hN hy hsw p0 ok (fun s H C d fp => (hg s H C d fp (cl.blk s H _ _ fp)).kan) (fun s H C d fp => ht s H C d fp (cl.blk s H _ _ fp)) (fun s H C d fp => (he s H C d fp (cl.blk s H _ _ fp)).kan takes0) hs
  refine ⟨_, ps_low cl (ps_fz rule), fun D σ H ι ρ μ sr rl h => ?_⟩
  refine im_lc hv i0 σ H _ ι ρ μ sr rl ?_
  unfold sSet eDat at h
  revert h
  cases aLc it (own.map (·.2)) g tt te ρ μ with
  | bad => exact id
  | ex c p μ1 => exact fun h ι' H' d q n s e => h ι' H' σ d q n s (rl.mono q n) e
  | ok vs μ1 =>
    intro h ι' H' q n s a xs rx e hn h0
    refine ⟨a, xs, e, fun o hlow => ?_⟩
    have mu : Mut (H' a) := by rw [e]; trivial
    have w : HW H' (upd H' a (.frz o (.lst xs))) := (HM.mine (HM.refl (ι := [a]) H') mu (.inr (by simp))).w
    exact h ι' _ _ q (n.mine mu (.inl h0)) (s.other w hn) (((rl.mono q n).monoW (List.prefix_refl _) w).set (.lst ⟨o, upd_same, hlow a _ upd_same⟩ (rx.monoW (List.prefix_refl _) w)))
end
end Lr


namespace Lr
open PySem PySem.Spec L2
open PyProof.Rows hiding St
section
variable {κ : Nat → Addr} {X : Cx} {a b c e o tg : Expr} {ra rb rc r : AE} {pos p2 pos' : Pos} {k : Nat} {es : List Expr} {rs : AA}
def signsA (z : Str) : List AV := z.cps.toList.map fun c => .str ⟨#[c]⟩
theorem JR.str {K : PySem.W.Frag} {ι : List Addr} {H : Hp} {z : Str} : JR K κ ι H (.dat (signsA z)) (Its z) := fun i ι' H' μ hm sr => by
  have e : (signsA z)[i]? = (z.cps[i]?).map fun c => AV.str ⟨#[c]⟩ := by
    unfold signsA
    rw [List.getElem?_map, Array.getElem?_toList]
  simp only [Src.at, e]
  cases h : z.cps[i]? with
  | none => exact Array.getElem?_eq_none_iff.mp h
  | some c =>
    refine ⟨(Array.getElem?_eq_some_iff.mp h).1, fun x H2 hy => ?_⟩
    obtain ⟨rfl, c', h', rfl⟩ := hy
    rw [h] at h'
    cases h'
    exact ⟨HM.refl _, sr, .str _⟩
def iStrS (r : AE) : AI := fun ρ μ => (r ρ μ).bind fun x μ1 => match x with
  | .str z => .ok (.dat (signsA z)) μ1
  | _ => .bad
theorem DI.str (ha : DE κ X a ra) : DI κ X tg a (iStrS ra) := fun W tk => by
  obtain ⟨t, p, i⟩ := ha W tk
  refine ⟨iStr t, pi_str p, fun σ H R ι ρ μ sr rl h => ?_⟩
  refine i σ H _ ι ρ μ sr rl (PG.bind0 h fun x μ1 ι1 H1 p1 m1 sr1 h1 v rv => ?_)
  cases rv <;> first | exact False.elim h1 | skip
  exact ⟨_, rfl, h1 ι1 H1 p1 m1 sr1 _ JR.str⟩

def keyed : List (AV × AV) → Option (List (Key × AV))
  | [] => some []
  | (x, y) :: r => match keyOf x, keyed r with
    | some k, some ks => some ((k, y) :: ks)
    | _, _ => none
def aDisp (rp : Loc → Store → Res (List (AV × AV))) : AD := fun ρ μ => (rp ρ μ).bind fun kvs μ1 => match keyed kvs with
  | some ks => if (ks.map (·.1)).Nodup ∧ kvs.length ≤ 15 then .ok ks μ1 else .bad
  | none => .bad
theorem keyed_kV {K : PySem.W.Frag} {ι : List Addr} {H : Hp} : ∀ {kvs : List (AV × AV)} {ps : List (V × V)} {ks : List (Key × AV)}, RelP K κ ι H kvs ps → keyed kvs = some ks → ∃ qs : List (Key × V), ps = qs.map (fun kv => (kV kv.1, kv.2)) ∧ RelK K κ ι H ks qs
  | _, _, _, .nil, e => by cases e; exact ⟨[], rfl, .nil⟩
  | _, _, _, .cons (x := x) (y := y) (v := v) (u := u) (kvs := kvs) h g r, e => by
    simp only [keyed] at e
    split at e
    · rename_i k ks e1 e2
      cases e
      obtain ⟨qs, eq, ek⟩ := keyed_kV r e2
      refine ⟨(k, u) :: qs, ?_, .cons ⟨rfl, g⟩ ek⟩
      rw [List.map_cons, ← eq, keyOf_kV h e1]
    · cases e
theorem DD.disp {ks : List (Option Expr)} {vs : List Expr} {rp : Loc → Store → Res (List (AV × AV))} (h : DP κ X pos ks vs rp) (hall : ks.all (·.isSome) = true := by rfl) (hl : ks.length = vs.length := by rfl) (h0 : ks ≠ [] := by simp) (h15 : ks.length ≤ 15 := by decide) :
    DD κ X (.Dict ks vs pos) (aDisp rp) := fun W tk => by
  obtain ⟨t, p, i⟩ := h W tk
  refine ⟨_, pe_disp p hall hl h0 h15, fun σ H Q ι ρ μ sr rl h p hn => ?_⟩
  have rl1 := rl.mono (List.prefix_refl _) (HM.fresh (o := .dK []) hn)
  refine i σ _ _ ι ρ μ (sr.new (o := .dK []) hn) rl1 (PG.bindF (HM.fresh hn) h fun kvs μ1 ι1 H1 p1 m1 sr1 h1 _ ps rp => ?_)
  have e1 : H1 p = some (.dK []) := m1.oth p _ (sr.notin hn) upd_same
  split at h1
  · rename_i kk ek
    by_cases hk : (kk.map (·.1)).Nodup ∧ kvs.length ≤ 15
    · rw [if_pos hk] at h1
      obtain ⟨qs, eq, rk⟩ := keyed_kV rp ek
      subst eq
      have hlen := rp.length
      rw [List.length_map] at hlen
      have em : mergeK [] qs = qs := by
        have := merge_new qs [] (by rw [List.map_nil, List.nil_append, ← rk.keys]; exact hk.1)
        simpa using this
      have hn1 : p ∉ ι1 := fun z => by
        have := m1.new p z (sr.notin hn)
        rw [upd_same] at this
        cases this
      refine ⟨e1, qs, rfl, by omega, ?_⟩
      rw [em]
      have mu : Mut (H1 p) := by rw [e1]; trivial
      have w : HW H1 (upd H1 p (.dK qs)) := (HM.mine (HM.refl (ι := [p]) H1) mu (.inr (by simp))).w
      exact h1 ι1 _ ((HM.fresh hn).trans m1).pre (((HM.fresh hn).trans m1).mine mu (.inl hn)) (sr1.other w hn1) p qs (rk.mono (List.prefix_refl _) w) upd_same hn1 hn
    · rw [if_neg hk] at h1
      exact False.elim h1
  · exact False.elim h1

def eDGet2 (o i d : AE) : AE := fun ρ μ => (o ρ μ).bind fun l μ1 => if isDc μ1 l then (i ρ μ1).bind fun j μ2 => (d ρ μ2).bind fun z μ3 => match stD μ3 l, keyOf j with
  | some (_, kvs), some k => .ok ((valA kvs k).getD z) μ3
  | _, _ => .bad else .bad
theorem valA_none {K : PySem.W.Frag} {ι : List Addr} {H : Hp} {kvs : List (Key × AV)} {vs : List (Key × V)} {k : Key} (r : RelK K κ ι H kvs vs) (h : valA kvs k = none) : valV vs k = none := by
  have e1 := valV_any k vs
  rw [← r.any k] at e1
  have e2 : (kvs.any fun kv => decide (kv.1 = k)) = false := by
    rw [List.any_eq_false]
    intro p hp z
    have z := of_decide_eq_true z
    unfold valA at h
    rw [Option.map_eq_none_iff, List.find?_eq_none] at h
    exact h p hp (decide_eq_true z)
  rw [e2] at e1
  cases hv : valV vs k with
  | none => rfl
  | some x => rw [hv] at e1; cases e1
theorem DE.dget2 {i d : Expr} {apos cpos : Pos} (cl : Cl X k) (ho : DE κ X o ra) (hi : DE κ X i rb) (hd : DE κ X d rc) (m : M2 X o "get" apos i d cpos := by exact ⟨rfl, rfl, rfl, rfl⟩) : DE κ X (.Call (.Attribute o "get" apos) [i, d] [] cpos) (eDGet2 ra rb rc) := fun W tk => by
  obtain ⟨t1, p1, i1⟩ := ho W tk
  obtain ⟨t2, p2, i2⟩ := hi W tk
  obtain ⟨t3, p3, i3⟩ := hd W tk
  refine ⟨_, pe_dget2 (by have := cl.room.un; omega) p1 p2 p3 m, fun σ H Q ι ρ μ sr rl h => ?_⟩
  refine i1 σ H _ ι ρ μ sr rl (PG.bind h fun l μ1 ι1 H1 q1 m1 sr1 h1 lv rlv => ?_)
  by_cases hl : isDc μ1 l = true
  · rw [if_pos hl] at h1
    obtain ⟨⟨n0, xs0⟩, e0⟩ := Option.isSome_iff_exists.mp hl
    obtain ⟨p0, vs0, rfl, hp0, h0, _⟩ := stD_rel sr1 rlv e0
    refine ⟨p0, rfl, .inl ⟨vs0, .inl h0⟩, ?_⟩
    refine i2 σ H1 _ ι1 ρ μ1 sr1 (rl.mono q1 m1) (PG.bind h1 fun j μ2 ι2 H2 q2 m2 sr2 h2 jv rj => ?_)
    refine i3 σ H2 _ ι2 ρ μ2 sr2 ((rl.mono q1 m1).mono q2 m2) (PG.bind h2 fun z μ3 ι3 H3 q3 m3 sr3 h3 zv rz => ?_)
    split at h3
    · rename_i n kvs kk e1 ek
      obtain ⟨p1', vs, ex, hq, e2, r2⟩ := stD_rel sr3 ((rlv.mono q2 m2).mono q3 m3) e1
      cases ex
      have ejv := keyOf_kV (rj.mono q3 m3) ek
      subst ejv
      refine ⟨valV vs kk, DGet.k e2, ?_⟩
      cases hv : valA kvs kk with
      | none =>
        rw [hv] at h3
        rw [valA_none r2 hv]
        exact ok1 sr3 h3 rz
      | some v =>
        rw [hv] at h3
        obtain ⟨u, eu, ru⟩ := r2.val hv
        rw [eu]
        exact ok1 sr3 h3 ru
    · exact False.elim h3
  · rw [if_neg hl] at h1
    exact False.elim h1

def gLenD : Fn := fun as μ => match as with
  | [x] => match stD μ x with
    | some (_, kvs) => .ok (.int kvs.length) μ
    | none => .bad
  | _ => .bad
theorem ca_lenD : CallA κ X (.builtin "len") gLenD := fun W tk pins s σ H xs us Q I r hh => by
  obtain ⟨σ0, ι, μ, as, sr, rl, h⟩ := hh
  unfold gLenD at h
  split at h <;> first | exact False.elim h | skip
  split at h <;> first | exact False.elim h | skip
  rename_i x _ n kvs e1
  cases rl with
  | cons r1 r2 =>
    cases r2
    obtain ⟨p, vs, rfl, hq, e2, r3⟩ := stD_rel sr r1 e1
    rw [Vals.ref1 r]
    refine d_len I (.inl e2) fun t s' I' => ⟨.int _, H, I', ⟨_, rfl⟩, ?_⟩
    rw [← r3.length]
    exact ok1 sr h (.int _)
end
end Lr


namespace Lr
open PySem PySem.Spec L2


def wp {α : Type} (r : Res α) (Q : α → Store → Prop) : Prop := match r with
  | .ok a μ => Q a μ
  | _ => False

def wpX {α : Type} (r : Res α) (Q : α → Store → Prop) (E : Nat → Option AV → Store → Prop) : Prop := match r with
  | .ok a μ => Q a μ
  | .ex c p μ => E c p μ
  | .bad => False
structure Kt where
  nx : Loc → Store → Prop := fun _ _ => False
  rt : AV → Store → Prop := fun _ _ => False
  bk : Loc → Store → Prop := fun _ _ => False
  ct : Loc → Store → Prop := fun _ _ => False
def wo (o : Out) (D : Kt) : Prop := match o with
  | .nx ρ μ => D.nx ρ μ
  | .rt v μ => D.rt v μ
  | .bk ρ μ => D.bk ρ μ
  | .ct ρ μ => D.ct ρ μ
  | _ => False
section
variable {α β : Type} {Q : α → Store → Prop} {ρ : Loc} {μ : Store} {D : Kt}
@[simp] theorem wp_ok {a : α} : wp (.ok a μ) Q = Q a μ := rfl
@[simp] theorem wp_bad : wp (.bad : Res α) Q = False := rfl
@[simp] theorem wp_bind {r : Res β} {f : β → Store → Res α} : wp (r.bind f) Q = wp r fun b μ1 => wp (f b μ1) Q := by cases r <;> rfl
theorem wp.elim {r : Res α} (h : wp r Q) : ∃ a μ, r = .ok a μ ∧ Q a μ := by
  cases r with
  | ok a μ => exact ⟨a, μ, rfl, h⟩
  | ex c p μ => exact False.elim h
  | bad => exact False.elim h
theorem wp.mono {Q' : α → Store → Prop} {r : Res α} (h : wp r Q) (k : ∀ a μ, Q a μ → Q' a μ) : wp r Q' := by
  cases r with
  | ok a μ => exact k a μ h
  | ex c p μ => exact False.elim h
  | bad => exact False.elim h
@[simp] theorem wp_ite {c : Prop} [Decidable c] {r s : Res α} : wp (if c then r else s) Q = if c then wp r Q else wp s Q := by split <;> rfl
@[simp] theorem wo_nx : wo (.nx ρ μ) D = D.nx ρ μ := rfl
@[simp] theorem wo_rt {v : AV} : wo (.rt v μ) D = D.rt v μ := rfl
@[simp] theorem wo_bk : wo (.bk ρ μ) D = D.bk ρ μ := rfl
@[simp] theorem wo_ct : wo (.ct ρ μ) D = D.ct ρ μ := rfl
@[simp] theorem wo_bad : wo .bad D = False := rfl
@[simp] theorem wo_out {r : Res α} {f : α → Store → Out} : wo (r.out ρ f) D = wp r fun a μ1 => wo (f a μ1) D := by cases r <;> rfl
@[simp] theorem wo_ite {c : Prop} [Decidable c] {r s : Out} : wo (if c then r else s) D = if c then wo r D else wo s D := by split <;> rfl
@[simp] theorem wo_seq {a b : AS} : wo (sSeq a b ρ μ) D = wo (a ρ μ) { D with nx := fun ρ1 μ1 => wo (b ρ1 μ1) D } := by
  unfold sSeq
  cases a ρ μ <;> rfl
@[simp] theorem wo_nil : wo (sNil ρ μ) D = D.nx ρ μ := rfl
@[simp] theorem wo_expr {r : AE} : wo (sExpr r ρ μ) D = wp (r ρ μ) fun _ μ1 => D.nx ρ μ1 := by unfold sExpr; simp
@[simp] theorem wo_ret {r : AE} : wo (sRet r ρ μ) D = wp (r ρ μ) fun v μ1 => D.rt v μ1 := by unfold sRet; simp
@[simp] theorem wo_retN : wo (sRetN ρ μ) D = D.rt .non μ := rfl
@[simp] theorem wo_brk : wo (sBreak ρ μ) D = D.bk ρ μ := rfl
@[simp] theorem wo_cont : wo (sCont ρ μ) D = D.ct ρ μ := rfl
@[simp] theorem wo_if {t : AT} {a b : AS} : wo (sIf t a b ρ μ) D = wp (t ρ μ) fun k μ1 => if k = true then wo (a ρ μ1) D else wo (b ρ μ1) D := by unfold sIf; simp
@[simp] theorem wo_set {i : Nat} {r : AE} : wo (sSet i r ρ μ) D = wp (r ρ μ) fun v μ1 => D.nx (ρ.set i (some v)) μ1 := by unfold sSet; simp
theorem wo.mono {D' : Kt} {o : Out} (h : wo o D) (h1 : ∀ ρ μ, D.nx ρ μ → D'.nx ρ μ) (h2 : ∀ v μ, D.rt v μ → D'.rt v μ) (h3 : ∀ ρ μ, D.bk ρ μ → D'.bk ρ μ) (h4 : ∀ ρ μ, D.ct ρ μ → D'.ct ρ μ) : wo o D' := by
  cases o with
  | nx ρ μ => exact h1 _ _ h
  | rt v μ => exact h2 _ _ h
  | bk ρ μ => exact h3 _ _ h
  | ct ρ μ => exact h4 _ _ h
  | _ => exact False.elim h

@[simp] theorem eVar_s {i : Nat} : eVar i ρ μ = (match ρ[i]? with | some (some v) => .ok v μ | _ => .bad) := rfl
@[simp] theorem eC_s {v : AV} : eC v ρ μ = .ok v μ := rfl
@[simp] theorem aNil_s : aNil ρ μ = .ok [] μ := rfl
@[simp] theorem aCons_s {a : AE} {r : AA} : aCons a r ρ μ = (a ρ μ).bind fun x μ1 => (r ρ μ1).bind fun xs μ2 => .ok (x :: xs) μ2 := rfl
@[simp] theorem eTup_s {r : AA} : eTup r ρ μ = (r ρ μ).bind fun xs μ1 => if xs.length ≤ 16777216 then .ok (.tup xs) μ1 else .bad := rfl
@[simp] theorem aLst_s {r : AA} : aLst r ρ μ = (r ρ μ).bind fun xs μ1 => if xs.length ≤ 16777216 then .ok xs μ1 else .bad := rfl
@[simp] theorem eNew_s {r : AA} : eNew r ρ μ = (r ρ μ).bind fun xs μ1 => .ok (.loc μ1.length) (μ1 ++ [.lst xs]) := rfl
@[simp] theorem eDat_s {r : AA} : eDat r ρ μ = (r ρ μ).bind fun xs μ1 => .ok (.lst xs) μ1 := rfl
@[simp] theorem eOp_s {g : G2} {a b : AE} : eOp g a b ρ μ = (a ρ μ).bind fun x μ1 => (b ρ μ1).bind fun y μ2 => g x y μ2 := rfl
@[simp] theorem eCall_s {f : Fn} {a : AA} : eCall f a ρ μ = (a ρ μ).bind fun as μ1 => f as μ1 := rfl
@[simp] theorem eCB_s {f : Fn} {a : AA} : eCB f a ρ μ = (a ρ μ).bind fun as μ1 => f as μ1 := rfl
@[simp] theorem aCB_s {f : FnN} {a : AA} : aCB f a ρ μ = (a ρ μ).bind fun as μ1 => f as μ1 := rfl
@[simp] theorem eIf_s {t : AT} {a b : AE} : eIf t a b ρ μ = (t ρ μ).bind fun k μ1 => if k then a ρ μ1 else b ρ μ1 := rfl
@[simp] theorem tB1_s {r : AE} : tB1 r ρ μ = (r ρ μ).bind fun x μ1 => match x with | .bl k => .ok k μ1 | _ => .bad := rfl
@[simp] theorem tNt_s {r : AT} : tNt r ρ μ = (r ρ μ).bind fun b μ1 => .ok (!b) μ1 := rfl
@[simp] theorem tAn_s {t u : AT} : tAn t u ρ μ = (t ρ μ).bind fun b μ1 => if b then u ρ μ1 else .ok false μ1 := rfl
@[simp] theorem tOrr_s {t u : AT} : tOrr t u ρ μ = (t ρ μ).bind fun b μ1 => if b then .ok true μ1 else u ρ μ1 := rfl
@[simp] theorem tTr_s {r : AE} : tTr r ρ μ = (r ρ μ).bind fun x μ1 => match truA μ1 x with | some k => .ok k μ1 | none => .bad := rfl
@[simp] theorem gAdd_i {i j : Int} : gAdd (.int i) (.int j) μ = .ok (.int (i + j)) μ := rfl
@[simp] theorem gAdd_t {xs ys : List AV} : gAdd (.tup xs) (.tup ys) μ = if xs.length + ys.length ≤ 16777216 then .ok (.tup (xs ++ ys)) μ else .bad := rfl
@[simp] theorem gSub_i {i j : Int} : gSub (.int i) (.int j) μ = .ok (.int (i - j)) μ := rfl
@[simp] theorem gMul_i {i j : Int} : gMul (.int i) (.int j) μ = if mulOk i j then .ok (.int (i * j)) μ else .bad := rfl
theorem p64 : (2 : Nat) ^ 64 ≤ 2 ^ 4000 := Nat.pow_le_pow_right (by decide) (by decide)
theorem gDiv_i {i j : Int} (h : 0 < j) (h2 : j < 18446744073709551616) : gDiv (.int i) (.int j) μ = .ok (.int (i / j)) μ := by
  have h3 : j.natAbs < 2 ^ 64 := by omega
  have e : (decide (0 < j) && decide (j.natAbs < 2 ^ 4000)) = true := by rw [decide_eq_true h, decide_eq_true (Nat.lt_of_lt_of_le h3 p64)]; rfl
  exact if_pos e
theorem mulOk_l {i j : Int} (h : i.natAbs < 18446744073709551616) : mulOk i j = true := by
  have h3 : i.natAbs < 2 ^ 64 := h
  unfold mulOk
  rw [decide_eq_true h3]
  rfl
theorem mulOk_r {i j : Int} (h : j.natAbs < 18446744073709551616) : mulOk i j = true := by
  have h3 : j.natAbs < 2 ^ 64 := h
  unfold mulOk
  rw [decide_eq_true h3, Bool.or_true]
  rfl
@[simp] theorem gMod_i {i j : Int} : gMod (.int i) (.int j) μ = if decide (0 < j) then .ok (.int (i % j)) μ else .bad := rfl
@[simp] theorem gPow_i {i j : Int} : gPow (.int i) (.int j) μ = if decide (0 ≤ j) && decide (j ≤ 1000) && decide (i.natAbs < 2 ^ 64) then .ok (.int (i ^ j.toNat)) μ else .bad := rfl
@[simp] theorem gLt_i {i j : Int} : gLt (.int i) (.int j) μ = .ok (.bl (decide (i < j))) μ := rfl
@[simp] theorem gLe_i {i j : Int} : gLe (.int i) (.int j) μ = .ok (.bl (decide (i ≤ j))) μ := rfl
@[simp] theorem gGt_i {i j : Int} : gGt (.int i) (.int j) μ = .ok (.bl (decide (j < i))) μ := rfl
@[simp] theorem gGe_i {i j : Int} : gGe (.int i) (.int j) μ = .ok (.bl (decide (j ≤ i))) μ := rfl
@[simp] theorem eNeg_s {a : AE} : eNeg a ρ μ = (a ρ μ).bind fun x μ1 => match x with | .int i => .ok (.int (-i)) μ1 | .bl b => .ok (.int (-(if b then 1 else 0))) μ1 | _ => .bad := rfl
@[simp] theorem gLen_t {xs : List AV} : gLen [.tup xs] μ = .ok (.int xs.length) μ := rfl
@[simp] theorem gLen_l {xs : List AV} : gLen [.lst xs] μ = .ok (.int xs.length) μ := rfl
@[simp] theorem gLen_c {ns : List Int} : gLen [.scr ns] μ = .ok (.int ns.length) μ := rfl
@[simp] theorem gAbs_i {i : Int} : gAbs [.int i] μ = .ok (.int (if i < 0 then -i else i)) μ := rfl
@[simp] theorem gMax_i {i j : Int} : gMax [.int i, .int j] μ = .ok (.int (if j > i then j else i)) μ := rfl
@[simp] theorem gMin_i {i j : Int} : gMin [.int i, .int j] μ = .ok (.int (if j < i then j else i)) μ := rfl
@[simp] theorem gInt_i {i : Int} : gInt [.int i] μ = .ok (.int i) μ := rfl
@[simp] theorem gInt_b {b : Bool} : gInt [.bl b] μ = .ok (.int (if b then 1 else 0)) μ := rfl
@[simp] theorem gTuple_t {xs : List AV} : gTuple [.tup xs] μ = .ok (.tup xs) μ := rfl
@[simp] theorem gTuple_l {xs : List AV} : gTuple [.lst xs] μ = .ok (.tup xs) μ := rfl
@[simp] theorem gList_t {xs : List AV} : gList [.tup xs] μ = .ok xs μ := rfl
@[simp] theorem gList_l {xs : List AV} : gList [.lst xs] μ = .ok xs μ := rfl
@[simp] theorem sSub_s {o i r : AE} : sSub o i r ρ μ = (r ρ μ).out ρ fun v μ1 => (o ρ μ1).out ρ fun l μ2 => (i ρ μ2).out ρ fun j μ3 => match stL μ3 l, j with
  | some (n, xs), .int k => (match ixN xs.length k with
    | some m => .nx ρ (μ3.set n (.lst (xs.set m v)))
    | none => .bad)
  | _, _ => .bad := rfl
theorem stL_o {n : Nat} {xs : List AV} (e : μ[n]? = some (.lst xs)) : stL μ (.loc n) = some (n, xs) := by simp [stL, e]
theorem gIx_t {xs : List AV} {i : Int} {v : AV} (h : atI xs i = some v) : gIx (.tup xs) (.int i) μ = .ok v μ := by simp [gIx, seqOf, h]
theorem gIx_l {xs : List AV} {i : Int} {v : AV} (h : atI xs i = some v) : gIx (.lst xs) (.int i) μ = .ok v μ := by simp [gIx, seqOf, h]
theorem gIx_o {n : Nat} {xs : List AV} {i : Int} {v : AV} (e : μ[n]? = some (.lst xs)) (h : atI xs i = some v) : gIx (.loc n) (.int i) μ = .ok v μ := by simp [gIx, seqOf, lsOf, e, h]
theorem gIx_c {ns : List Int} {i j : Int} (h : atI ns i = some j) : gIx (.scr ns) (.int i) μ = .ok (.int j) μ := by simp [gIx, h]
theorem atI_nn {γ : Type} {xs : List γ} {i : Int} (h0 : 0 ≤ i) (h1 : i < xs.length) : atI xs i = xs[i.toNat]? := by
  unfold atI ixN
  simp [h0, h1]
theorem atI_get {γ : Type} {xs : List γ} {i : Int} (h0 : 0 ≤ i) (h1 : i < xs.length) : ∃ v, atI xs i = some v ∧ v ∈ xs := by
  rw [atI_nn h0 h1]
  have : i.toNat < xs.length := by omega
  exact ⟨xs[i.toNat], by rw [List.getElem?_eq_getElem this], List.getElem_mem _⟩
end


mutual

def pure? : AV → Bool
  | .tup xs => pureL xs
  | .lst xs => pureL xs
  | .dct kvs => pureD kvs
  | .loc _ => false
  | _ => true
def pureL : List AV → Bool
  | [] => true
  | x :: xs => pure? x && pureL xs
def pureD : List (AV × AV) → Bool
  | [] => true
  | (x, y) :: xs => pure? x && pure? y && pureD xs
end
mutual
theorem bel_pure (n : Nat) : ∀ v : AV, pure? v = true → bel n v = true
  | .tup xs, h => by simp only [pure?] at h; simp only [bel]; exact belL_pure n xs h
  | .lst xs, h => by simp only [pure?] at h; simp only [bel]; exact belL_pure n xs h
  | .dct kvs, h => by simp only [pure?] at h; simp only [bel]; exact belD_pure n kvs h
  | .loc _, h => by simp [pure?] at h
  | .non, _ => rfl
  | .bl _, _ => rfl
  | .int _, _ => rfl
  | .str _, _ => rfl
  | .obj _, _ => rfl
  | .scr _, _ => rfl
  | .ty _, _ => rfl
theorem belL_pure (n : Nat) : ∀ v : List AV, pureL v = true → belL n v = true
  | [], _ => rfl
  | x :: xs, h => by
    simp only [pureL, Bool.and_eq_true] at h
    simp only [belL, Bool.and_eq_true]
    exact ⟨bel_pure n x h.1, belL_pure n xs h.2⟩
theorem belD_pure (n : Nat) : ∀ v : List (AV × AV), pureD v = true → belD n v = true
  | [], _ => rfl
  | (x, y) :: xs, h => by
    simp only [pureD, Bool.and_eq_true] at h
    simp only [belD, Bool.and_eq_true]
    exact ⟨⟨bel_pure n x h.1.1, bel_pure n y h.1.2⟩, belD_pure n xs h.2⟩
end
theorem pureL_all : ∀ xs : List AV, pureL xs = xs.all pure?
  | [] => rfl
  | x :: xs => by rw [List.all_cons, ← pureL_all xs]; rfl

theorem fn_wp {n m : Nat} {b : AS} {as : List AV} {μ : Store} {Q : AV → Store → Prop} (hl : as.length = m)
    (h : wo (b (startA n as) μ) { nx := fun _ σ => gcOk μ σ ∧ Q .non (σ.take μ.length), rt := fun v σ => pure? v = true ∧ gcOk μ σ ∧ Q v (σ.take μ.length) }) : wp (fnR n m b as μ) Q := by
  unfold fnR
  rw [if_pos hl]
  unfold bodyR
  revert h
  cases b (startA n as) μ with
  | nx ρ σ =>
    intro h
    show wp (gc μ (.ok .non σ)) Q
    unfold gc
    simp only
    rw [if_pos ⟨rfl, h.1⟩]
    exact h.2
  | rt v σ =>
    intro h
    show wp (gc μ (.ok v σ)) Q
    unfold gc
    simp only
    rw [if_pos ⟨bel_pure _ v h.1, h.2.1⟩]
    exact h.2.2
  | _ => exact False.elim

theorem fn_wpN {n m : Nat} {b : AS} {as : List AV} {μ : Store} {Q : AV → Store → Prop} (hl : as.length = m)
    (h : wo (b (startA n as) μ) { rt := fun v σ => bel μ.length v = false ∧ Q v σ }) : wp (fnR n m b as μ) Q := by
  unfold fnR
  rw [if_pos hl]
  unfold bodyR
  revert h
  cases b (startA n as) μ with
  | rt v σ =>
    intro h
    show wp (gc μ (.ok v σ)) Q
    unfold gc
    simp only
    rw [if_neg (fun z => by rw [h.1] at z; exact absurd z.1 Bool.false_ne_true)]
    exact h.2
  | _ => exact False.elim


theorem wo_for {it : AI} {g : AG} {b : AS} {ρ : Loc} {μ : Store} {D : Kt} : wo (sFor it g b ρ μ) D = wp (it ρ μ) fun src μ1 => wo (forF g b src FUEL 0 ρ μ1) D := by unfold sFor; simp

theorem wo_dat {g : AG} {b : AS} {xs : List AV} {D : Kt} (W : Nat → Loc → Store → Prop) (hend : ∀ ρ μ, W xs.length ρ μ → D.nx ρ μ)
    (step : ∀ i (v : AV) ρ μ, xs[i]? = some v → W i ρ μ → ∃ ρ1, g v ρ = some ρ1 ∧ wo (b ρ1 μ) { D with nx := W (i + 1), ct := W (i + 1), bk := D.nx }) :
    ∀ (m i : Nat) ρ μ, xs.length - i < m → i ≤ xs.length → W i ρ μ → wo (forF g b (.dat xs) m i ρ μ) D
  | 0, i, ρ, μ, hm, _, _ => absurd hm (Nat.not_lt_zero _)
  | m + 1, i, ρ, μ, hm, hi, h => by
    unfold forF
    simp only [Src.at]
    cases e : xs[i]? with
    | none =>
      have : xs.length ≤ i := List.getElem?_eq_none_iff.mp e
      have hi' : i = xs.length := by omega
      subst hi'
      exact hend ρ μ h
    | some v =>
      have hlt : i < xs.length := (List.getElem?_eq_some_iff.mp e).1
      obtain ⟨ρ1, eg, hb⟩ := step i v ρ μ e h
      simp only [eg]
      revert hb
      cases b ρ1 μ with
      | nx ρ2 μ2 => exact fun hb => wo_dat W hend step m (i + 1) ρ2 μ2 (by omega) (by omega) hb
      | ct ρ2 μ2 => exact fun hb => wo_dat W hend step m (i + 1) ρ2 μ2 (by omega) (by omega) hb
      | bk ρ2 μ2 => exact id
      | rt v μ2 => exact id
      | ex c p ρ2 μ2 => exact id
      | bad => exact id

theorem wo_live {g : AG} {b : AS} {n : Nat} {xs : List AV} {D : Kt} (W : Nat → Loc → Store → Prop) (at_ : ∀ i ρ μ, W i ρ μ → μ[n]? = some (.lst xs)) (hend : ∀ ρ μ, W xs.length ρ μ → D.nx ρ μ)
    (step : ∀ i (v : AV) ρ μ, xs[i]? = some v → W i ρ μ → ∃ ρ1, g v ρ = some ρ1 ∧ wo (b ρ1 μ) { D with nx := W (i + 1), ct := W (i + 1), bk := D.nx }) :
    ∀ (m i : Nat) ρ μ, xs.length - i < m → i ≤ xs.length → W i ρ μ → wo (forF g b (.live n) m i ρ μ) D
  | 0, i, ρ, μ, hm, _, _ => absurd hm (Nat.not_lt_zero _)
  | m + 1, i, ρ, μ, hm, hi, h => by
    unfold forF
    simp only [Src.at, at_ i ρ μ h]
    cases e : xs[i]? with
    | none =>
      have : xs.length ≤ i := List.getElem?_eq_none_iff.mp e
      have hi' : i = xs.length := by omega
      subst hi'
      exact hend ρ μ h
    | some v =>
      have hlt : i < xs.length := (List.getElem?_eq_some_iff.mp e).1
      obtain ⟨ρ1, eg, hb⟩ := step i v ρ μ e h
      simp only [eg]
      revert hb
      cases b ρ1 μ with
      | nx ρ2 μ2 => exact fun hb => wo_live W at_ hend step m (i + 1) ρ2 μ2 (by omega) (by omega) hb
      | ct ρ2 μ2 => exact fun hb => wo_live W at_ hend step m (i + 1) ρ2 μ2 (by omega) (by omega) hb
      | bk ρ2 μ2 => exact id
      | rt v μ2 => exact id
      | ex c p ρ2 μ2 => exact id
      | bad => exact id
theorem wp_nox {α : Type} {r : Res α} {Q : α → Store → Prop} : wp r.nox Q = wp r Q := by cases r <;> rfl

theorem wp_lc {g : AG} {te : AE} {xs : List AV} {Q : List AV → Store → Prop} {ρ : Loc} (W : Nat → List AV → Store → Prop) (hz : xs.length ≤ 16777216) (hlen : ∀ i acc μ, W i acc μ → acc.length = i) (hend : ∀ acc μ, W xs.length acc μ → Q acc μ)
    (step : ∀ i (v : AV) acc μ, xs[i]? = some v → W i acc μ → ∃ ρ1, g v ρ = some ρ1 ∧ wp (te ρ1 μ) fun y μ2 => W (i + 1) (acc ++ [y]) μ2) :
    ∀ (m i : Nat) acc μ, xs.length - i < m → i ≤ xs.length → W i acc μ → wp (lcF g tTrue te (.dat xs) m i ρ acc μ) Q
  | 0, i, acc, μ, hm, _, _ => absurd hm (Nat.not_lt_zero _)
  | m + 1, i, acc, μ, hm, hi, h => by
    unfold lcF
    simp only [Src.at]
    cases e : xs[i]? with
    | none =>
      have : xs.length ≤ i := List.getElem?_eq_none_iff.mp e
      have hi' : i = xs.length := by omega
      subst hi'
      exact hend acc μ h
    | some v =>
      have hlt : i < xs.length := (List.getElem?_eq_some_iff.mp e).1
      obtain ⟨ρ1, eg, hb⟩ := step i v acc μ e h
      have hl := hlen i acc μ h
      simp only [eg, tTrue, Res.nox_ok, Res.bind_ok, if_true, wp_bind, wp_nox]
      refine hb.mono fun y μ2 hy => ?_
      rw [if_pos (by omega)]
      exact wp_lc W hz hlen hend step m (i + 1) _ μ2 (by omega) (by omega) hy



def Hst (μ : Store) (n B : Nat) : Prop := ∃ g c m : Int, μ[n]? = some (.lst [.int g, .int c, .int m]) ∧ 0 ≤ g ∧ 0 ≤ c ∧ c < 2147483647 ∧ 0 ≤ m ∧ m ≤ B

def Stp (n : Nat) (μ σ : Store) : Prop := σ.length = μ.length ∧ ∀ i, i ≠ n → σ[i]? = μ[i]?

def Ext (n : Nat) (μ σ : Store) : Prop := μ.length ≤ σ.length ∧ ∀ i, i < μ.length → i ≠ n → σ[i]? = μ[i]?
theorem Hst.lt {μ : Store} {n B : Nat} (h : Hst μ n B) : n < μ.length := let ⟨_, _, _, e, _⟩ := h; (List.getElem?_eq_some_iff.mp e).1
theorem Hst.le {μ : Store} {n B C : Nat} (h : Hst μ n B) (l : B ≤ C) : Hst μ n C := let ⟨g, c, m, e, h1, h2, h3, h4, h5⟩ := h; ⟨g, c, m, e, h1, h2, h3, h4, by omega⟩
theorem Hst.of {μ σ : Store} {n B : Nat} (h : Hst μ n B) (e : σ[n]? = μ[n]?) : Hst σ n B := by
  obtain ⟨g, c, m, h0, h⟩ := h
  exact ⟨g, c, m, e.trans h0, h⟩
theorem Stp.refl (n : Nat) (μ : Store) : Stp n μ μ := ⟨rfl, fun _ _ => rfl⟩
theorem Stp.trans {n : Nat} {μ σ τ : Store} (a : Stp n μ σ) (b : Stp n σ τ) : Stp n μ τ := ⟨b.1.trans a.1, fun i h => (b.2 i h).trans (a.2 i h)⟩
theorem Ext.refl (n : Nat) (μ : Store) : Ext n μ μ := ⟨Nat.le_refl _, fun _ _ _ => rfl⟩
theorem Ext.step {n : Nat} {μ σ τ : Store} (a : Ext n μ σ) (b : Stp n σ τ) : Ext n μ τ := ⟨by rw [b.1]; exact a.1, fun i h1 h2 => (b.2 i h2).trans (a.2 i h1 h2)⟩
theorem Stp.ext {n : Nat} {μ σ : Store} (b : Stp n μ σ) : Ext n μ σ := (Ext.refl n μ).step b
theorem Ext.push {n : Nat} {μ σ : Store} (a : Ext n μ σ) (o : AO) : Ext n μ (σ ++ [o]) := ⟨by have := a.1; simp; omega, fun i h1 h2 => by rw [List.getElem?_append_left (Nat.lt_of_lt_of_le h1 a.1)]; exact a.2 i h1 h2⟩
theorem Ext.set {n l : Nat} {μ σ : Store} (a : Ext n μ σ) (o : AO) (h : μ.length ≤ l ∨ l = n) : Ext n μ (σ.set l o) := ⟨by simp; exact a.1, fun i h1 h2 => by rw [List.getElem?_set_ne (by omega)]; exact a.2 i h1 h2⟩
theorem Hst.push {μ : Store} {n B : Nat} (h : Hst μ n B) (o : AO) : Hst (μ ++ [o]) n B := h.of (by rw [List.getElem?_append_left h.lt])
theorem Hst.set {μ : Store} {n l B : Nat} (h : Hst μ n B) (o : AO) (hl : l ≠ n) : Hst (μ.set l o) n B := h.of (by rw [List.getElem?_set_ne hl])
theorem Ext.gc {n B : Nat} {μ σ : Store} (a : Ext n μ σ) (h : Hst σ n B) (hn : n < μ.length) : gcOk μ σ ∧ Stp n μ (σ.take μ.length) ∧ Hst (σ.take μ.length) n B := by
  refine ⟨fun i o hi e => ?_, ⟨by rw [List.length_take]; have := a.1; omega, fun i hi => ?_⟩, ?_⟩
  · by_cases z : i = n
    · subst z
      obtain ⟨g, c, m, h0, _⟩ := h
      rw [h0] at e
      cases e
      exact .inr rfl
    · rw [a.2 i hi z] at e
      exact .inl e
  · by_cases z : i < μ.length
    · rw [List.getElem?_take_of_lt z, a.2 i z hi]
    · rw [List.getElem?_eq_none (by rw [List.length_take]; omega), List.getElem?_eq_none (by omega)]
  · exact h.of (List.getElem?_take_of_lt hn)

def Draws (f : Fn) (n : Nat) (as : List AV) (j : Nat) (P : AV → Prop) : Prop := ∀ μ B, B + j ≤ 1000000000 → Hst μ n B → wp (f as μ) fun v σ => Stp n μ σ ∧ Hst σ n (B + j) ∧ pure? v = true ∧ P v
theorem Draws.mono {f : Fn} {n : Nat} {as : List AV} {j k : Nat} {P P' : AV → Prop} (h : Draws f n as j P) (l : j ≤ k) (i : ∀ v, pure? v = true → P v → P' v) : Draws f n as k P' :=
  fun μ B hb hs => (h μ B (by omega) hs).mono fun v σ ⟨h1, h2, h3, h4⟩ => ⟨h1, h2.le (by omega), h3, i v h3 h4⟩

theorem Draws.of {n m k j : Nat} {b : AS} {as : List AV} {P : AV → Prop} (hl : as.length = m) (h : ∀ μ B, B + j ≤ 1000000000 → Hst μ n B →
    wo (b (startA k as) μ) { rt := fun v σ => pure? v = true ∧ Ext n μ σ ∧ Hst σ n (B + j) ∧ P v }) : Draws (fnR k m b) n as j P := fun μ B hb hs => by
  refine fn_wp hl ((h μ B hb hs).mono (fun _ _ h => False.elim h) (fun v σ ⟨h1, h2, h3, h4⟩ => ?_) (fun _ _ h => False.elim h) (fun _ _ h => False.elim h))
  obtain ⟨g1, g2, g3⟩ := h2.gc h3 hs.lt
  exact ⟨h1, g1, g2, g3, h1, h4⟩
end Lr


namespace Lr
open PySem PySem.Spec L2
section
variable {α β : Type} {ρ : Loc} {μ : Store} {D : Kt} {Q : AV → Store → Prop} {QL : List AV → Store → Prop} {QB : Bool → Store → Prop} {QO : Option Int → Store → Prop} {QS : Src → Store → Prop}
theorem w_ok {α : Type} {Q : α → Store → Prop} {a : α} (h : Q a μ) : wp (.ok a μ) Q := h
theorem w_bind {α β : Type} {Q : α → Store → Prop} {r : Res β} {f : β → Store → Res α} (h : wp r fun b μ1 => wp (f b μ1) Q) : wp (r.bind f) Q := by rw [wp_bind]; exact h
theorem w_var {i : Nat} {v : AV} (e : ρ[i]? = some (some v)) (h : Q v μ) : wp (eVar i ρ μ) Q := by rw [eVar_s, e]; exact h
theorem w_c {v : AV} (h : Q v μ) : wp (eC v ρ μ) Q := h
theorem w_nil (h : QL [] μ) : wp (aNil ρ μ) QL := h
theorem w_cons {a : AE} {r : AA} (h : wp (a ρ μ) fun x μ1 => wp (r ρ μ1) fun xs μ2 => QL (x :: xs) μ2) : wp (aCons a r ρ μ) QL := by simpa [aCons_s] using h
theorem w_tup {r : AA} (h : wp (r ρ μ) fun xs μ1 => xs.length ≤ 16777216 ∧ Q (.tup xs) μ1) : wp (eTup r ρ μ) Q := by
  rw [eTup_s, wp_bind]
  exact h.mono fun xs μ1 z => by rw [if_pos z.1]; exact z.2
theorem w_lst {r : AA} (h : wp (r ρ μ) fun xs μ1 => xs.length ≤ 16777216 ∧ QL xs μ1) : wp (aLst r ρ μ) QL := by
  rw [aLst_s, wp_bind]
  exact h.mono fun xs μ1 z => by rw [if_pos z.1]; exact z.2
theorem w_new {r : AA} (h : wp (r ρ μ) fun xs μ1 => Q (.loc μ1.length) (μ1 ++ [.lst xs])) : wp (eNew r ρ μ) Q := by rw [eNew_s, wp_bind]; exact h
theorem w_dat {r : AA} (h : wp (r ρ μ) fun xs μ1 => Q (.lst xs) μ1) : wp (eDat r ρ μ) Q := by rw [eDat_s, wp_bind]; exact h
theorem w_op {g : G2} {a b : AE} (h : wp (a ρ μ) fun x μ1 => wp (b ρ μ1) fun y μ2 => wp (g x y μ2) Q) : wp (eOp g a b ρ μ) Q := by rw [eOp_s, wp_bind]; exact h.mono fun x μ1 z => by rw [wp_bind]; exact z
theorem w_call {f : Fn} {a : AA} (h : wp (a ρ μ) fun as μ1 => wp (f as μ1) Q) : wp (eCall f a ρ μ) Q := by rw [eCall_s, wp_bind]; exact h
theorem w_cb {f : Fn} {a : AA} (h : wp (a ρ μ) fun as μ1 => wp (f as μ1) Q) : wp (eCB f a ρ μ) Q := by rw [eCB_s, wp_bind]; exact h
theorem w_acb {f : FnN} {a : AA} (h : wp (a ρ μ) fun as μ1 => wp (f as μ1) QL) : wp (aCB f a ρ μ) QL := by rw [aCB_s, wp_bind]; exact h
theorem w_if {t : AT} {a b : AE} (h : wp (t ρ μ) fun k μ1 => if k = true then wp (a ρ μ1) Q else wp (b ρ μ1) Q) : wp (eIf t a b ρ μ) Q := by rw [eIf_s, wp_bind]; exact h.mono fun k μ1 z => by rw [wp_ite]; exact z
theorem w_b1 {r : AE} (h : wp (r ρ μ) fun x μ1 => ∃ b, x = .bl b ∧ QB b μ1) : wp (tB1 r ρ μ) QB := by rw [tB1_s, wp_bind]; exact h.mono fun x μ1 ⟨b, e, z⟩ => by subst e; exact z
theorem w_nt {r : AT} (h : wp (r ρ μ) fun b μ1 => QB (!b) μ1) : wp (tNt r ρ μ) QB := by rw [tNt_s, wp_bind]; exact h
theorem w_an {t u : AT} (h : wp (t ρ μ) fun b μ1 => if b = true then wp (u ρ μ1) QB else QB false μ1) : wp (tAn t u ρ μ) QB := by rw [tAn_s, wp_bind]; exact h.mono fun k μ1 z => by rw [wp_ite]; exact z
theorem w_orr {t u : AT} (h : wp (t ρ μ) fun b μ1 => if b = true then QB true μ1 else wp (u ρ μ1) QB) : wp (tOrr t u ρ μ) QB := by rw [tOrr_s, wp_bind]; exact h.mono fun k μ1 z => by rw [wp_ite]; exact z
theorem w_tr {r : AE} (h : wp (r ρ μ) fun x μ1 => ∃ b, truA μ1 x = some b ∧ QB b μ1) : wp (tTr r ρ μ) QB := by rw [tTr_s, wp_bind]; exact h.mono fun x μ1 ⟨b, e, z⟩ => by simp only [e]; exact z
theorem w_add {i j : Int} (h : Q (.int (i + j)) μ) : wp (gAdd (.int i) (.int j) μ) Q := h
theorem w_addT {xs ys : List AV} (hz : xs.length + ys.length ≤ 16777216) (h : Q (.tup (xs ++ ys)) μ) : wp (gAdd (.tup xs) (.tup ys) μ) Q := by rw [gAdd_t, if_pos hz]; exact h
theorem w_sub {i j : Int} (h : Q (.int (i - j)) μ) : wp (gSub (.int i) (.int j) μ) Q := h
theorem w_mul {i j : Int} (hm : mulOk i j = true) (h : Q (.int (i * j)) μ) : wp (gMul (.int i) (.int j) μ) Q := by rw [gMul_i, if_pos hm]; exact h
theorem w_div {i j : Int} (h0 : 0 < j) (h1 : j < 18446744073709551616) (h : Q (.int (i / j)) μ) : wp (gDiv (.int i) (.int j) μ) Q := by rw [gDiv_i h0 h1]; exact h
theorem w_mod {i j : Int} (h0 : 0 < j) (h : Q (.int (i % j)) μ) : wp (gMod (.int i) (.int j) μ) Q := by rw [gMod_i, if_pos (decide_eq_true h0)]; exact h
theorem w_pow {i j : Int} (h0 : 0 ≤ j) (h1 : j ≤ 1000) (h2 : i.natAbs < 18446744073709551616) (h : Q (.int (i ^ j.toNat)) μ) : wp (gPow (.int i) (.int j) μ) Q := by
  have h3 : i.natAbs < 2 ^ 64 := h2
  rw [gPow_i, if_pos (by rw [decide_eq_true h0, decide_eq_true h1, decide_eq_true h3]; rfl)]
  exact h
theorem w_lt {i j : Int} (h : Q (.bl (decide (i < j))) μ) : wp (gLt (.int i) (.int j) μ) Q := h
theorem w_le {i j : Int} (h : Q (.bl (decide (i ≤ j))) μ) : wp (gLe (.int i) (.int j) μ) Q := h
theorem w_gt {i j : Int} (h : Q (.bl (decide (j < i))) μ) : wp (gGt (.int i) (.int j) μ) Q := h
theorem w_ge {i j : Int} (h : Q (.bl (decide (j ≤ i))) μ) : wp (gGe (.int i) (.int j) μ) Q := h
def negV : AV → Option Int
  | .int i => some (-i)
  | .bl b => some (-(if b then 1 else 0))
  | _ => none
theorem w_neg {a : AE} (h : wp (a ρ μ) fun x μ1 => ∃ i, negV x = some i ∧ Q (.int i) μ1) : wp (eNeg a ρ μ) Q := by
  rw [eNeg_s, wp_bind]
  refine h.mono fun x μ1 ⟨i, e, z⟩ => ?_
  cases x <;> simp only [negV] at e <;> first | (cases e; done) | skip
  · cases e
    exact z
  · cases e
    exact z
theorem w_addB {b : Bool} {j : Int} (h : Q (.int ((if b then 1 else 0) + j)) μ) : wp (gAdd (.bl b) (.int j) μ) Q := h
theorem w_subB {b : Bool} {j : Int} (h : Q (.int ((if b then 1 else 0) - j)) μ) : wp (gSub (.bl b) (.int j) μ) Q := h
theorem w_strB {b : Bool} (h : Q (.str (if b then "True" else "False")) μ) : wp (gStr [.bl b] μ) Q := h
theorem w_lenT {xs : List AV} (h : Q (.int xs.length) μ) : wp (gLen [.tup xs] μ) Q := h
theorem w_lenL {xs : List AV} (h : Q (.int xs.length) μ) : wp (gLen [.lst xs] μ) Q := h
theorem w_lenC {ns : List Int} (h : Q (.int ns.length) μ) : wp (gLen [.scr ns] μ) Q := h
theorem w_lenO {n : Nat} {xs : List AV} (e : μ[n]? = some (.lst xs)) (h : Q (.int xs.length) μ) : wp (gLen [.loc n] μ) Q := by simp only [gLen, seqOf, lsOf, e]; exact h
theorem w_abs {i : Int} (h : Q (.int (if i < 0 then -i else i)) μ) : wp (gAbs [.int i] μ) Q := h
theorem w_max {i j : Int} (h : Q (.int (if j > i then j else i)) μ) : wp (gMax [.int i, .int j] μ) Q := h
theorem w_min {i j : Int} (h : Q (.int (if j < i then j else i)) μ) : wp (gMin [.int i, .int j] μ) Q := h
theorem w_intI {i : Int} (h : Q (.int i) μ) : wp (gInt [.int i] μ) Q := h
theorem w_intB {b : Bool} (h : Q (.int (if b then 1 else 0)) μ) : wp (gInt [.bl b] μ) Q := h
theorem w_tupT {xs : List AV} (h : Q (.tup xs) μ) : wp (gTuple [.tup xs] μ) Q := h
theorem w_tupL {xs : List AV} (h : Q (.tup xs) μ) : wp (gTuple [.lst xs] μ) Q := h
theorem w_tupO {n : Nat} {xs : List AV} (e : μ[n]? = some (.lst xs)) (h : Q (.tup xs) μ) : wp (gTuple [.loc n] μ) Q := by simp only [gTuple, seqOf, lsOf, e]; exact h
theorem w_lisT {xs : List AV} (h : QL xs μ) : wp (gList [.tup xs] μ) QL := h
theorem w_ixT {xs : List AV} {i : Int} {v : AV} (e : atI xs i = some v) (h : Q v μ) : wp (gIx (.tup xs) (.int i) μ) Q := by rw [gIx_t e]; exact h
theorem w_ixL {xs : List AV} {i : Int} {v : AV} (e : atI xs i = some v) (h : Q v μ) : wp (gIx (.lst xs) (.int i) μ) Q := by rw [gIx_l e]; exact h
theorem w_ixO {n : Nat} {xs : List AV} {i : Int} {v : AV} (e : μ[n]? = some (.lst xs)) (e2 : atI xs i = some v) (h : Q v μ) : wp (gIx (.loc n) (.int i) μ) Q := by rw [gIx_o e e2]; exact h
theorem w_ixC {ns : List Int} {i j : Int} (e : atI ns i = some j) (h : Q (.int j) μ) : wp (gIx (.scr ns) (.int i) μ) Q := by rw [gIx_c e]; exact h
theorem w_chain {g g' : G2} {a b c : AE} (h : wp (a ρ μ) fun x μ1 => wp (b ρ μ1) fun y μ2 => wp (g x y μ2) fun z μ3 => ∃ k, z = .bl k ∧ if k = true then (wp (c ρ μ3) fun u μ4 => wp (g' y u μ4) Q) else Q (.bl false) μ3) : wp (eChain g g' a b c ρ μ) Q := by
  unfold eChain
  rw [wp_bind]
  refine h.mono fun x μ1 h => ?_
  rw [wp_bind]
  refine h.mono fun y μ2 h => ?_
  rw [wp_bind]
  refine h.mono fun z μ3 h => ?_
  obtain ⟨k, rfl, h⟩ := h
  cases k with
  | true => simp only [if_true] at h; simp only [wp_bind]; exact h
  | false => simpa using h
theorem w_eAn {a b : AE} (h : wp (a ρ μ) fun x μ1 => ∃ k, x = .bl k ∧ if k = true then wp (b ρ μ1) Q else Q (.bl false) μ1) : wp (eAn a b ρ μ) Q := by
  unfold eAn
  rw [wp_bind]
  refine h.mono fun z μ3 h => ?_
  obtain ⟨k, rfl, h⟩ := h
  cases k <;> simpa using h
theorem w_eOr {a b : AE} (h : wp (a ρ μ) fun x μ1 => ∃ k, x = .bl k ∧ if k = true then Q (.bl true) μ1 else wp (b ρ μ1) Q) : wp (eOr a b ρ μ) Q := by
  unfold eOr
  rw [wp_bind]
  refine h.mono fun z μ3 h => ?_
  obtain ⟨k, rfl, h⟩ := h
  cases k <;> simpa using h
theorem w_eNt {a : AE} (h : wp (a ρ μ) fun x μ1 => ∃ k, x = .bl k ∧ Q (.bl (!k)) μ1) : wp (eNt a ρ μ) Q := by
  unfold eNt
  rw [wp_bind]
  refine h.mono fun z μ3 h => ?_
  obtain ⟨k, rfl, h⟩ := h
  exact h
theorem w_oN (h : QO none μ) : wp (oNone ρ μ) QO := h
theorem w_oS {r : AE} (h : wp (r ρ μ) fun x μ1 => ∃ i, x = .int i ∧ QO (some i) μ1) : wp (oSome r ρ μ) QO := by
  unfold oSome
  rw [wp_bind]
  refine h.mono fun z μ3 h => ?_
  obtain ⟨k, rfl, h⟩ := h
  exact h
theorem w_sl {a : AE} {lo hi : AO'} (h : wp (a ρ μ) fun x μ1 => ∃ xs, x = .tup xs ∧ wp (lo ρ μ1) fun l μ2 => wp (hi ρ μ2) fun u μ3 => Q (.tup (cutA xs l u)) μ3) : wp (eSl a lo hi ρ μ) Q := by
  unfold eSl
  rw [wp_bind]
  refine h.mono fun z μ3 h => ?_
  obtain ⟨k, rfl, h⟩ := h
  rw [wp_bind]
  refine h.mono fun z μ3 h => ?_
  rw [wp_bind]
  exact h
theorem w_rev {a : AE} (h : wp (a ρ μ) fun x μ1 => ∃ xs, x = .tup xs ∧ Q (.tup xs.reverse) μ1) : wp (eRev a ρ μ) Q := by
  unfold eRev
  rw [wp_bind]
  refine h.mono fun z μ3 h => ?_
  obtain ⟨k, rfl, h⟩ := h
  exact h
theorem w_cat {a b : AE} (h : wp (a ρ μ) fun x μ1 => wp (b ρ μ1) fun y μ2 => ∃ xs ys, lsOf μ2 x = some xs ∧ lsOf μ2 y = some ys ∧ xs.length + ys.length ≤ 16777216 ∧ QL (xs ++ ys) μ2) : wp (aCat a b ρ μ) QL := by
  unfold aCat
  rw [wp_bind]
  refine h.mono fun x μ1 h => ?_
  rw [wp_bind]
  refine h.mono fun y μ2 h => ?_
  obtain ⟨xs, ys, e1, e2, hz, h⟩ := h
  simp only [e1, e2, if_pos hz]
  exact h
theorem w_app {o a : AE} (h : wp (o ρ μ) fun l μ1 => isLs μ1 l = true ∧ wp (a ρ μ1) fun v μ2 => ∃ n xs, l = .loc n ∧ μ2[n]? = some (.lst xs) ∧ xs.length < 16777216 ∧ Q .non (μ2.set n (.lst (xs ++ [v])))) : wp (eApp2 o a ρ μ) Q := by
  unfold eApp2
  rw [wp_bind]
  refine h.mono fun l μ1 h => ?_
  rw [if_pos h.1, wp_bind]
  refine h.2.mono fun v μ2 h => ?_
  obtain ⟨n, xs, rfl, e, hz, h⟩ := h
  simp only [stL_o e, if_pos hz]
  exact h
theorem w_ext {o a : AE} (h : wp (o ρ μ) fun l μ1 => isLs μ1 l = true ∧ wp (a ρ μ1) fun v μ2 => ∃ n xs ys, l = .loc n ∧ μ2[n]? = some (.lst xs) ∧ itsOf μ2 v = some ys ∧ xs.length + ys.length ≤ 16777216 ∧ Q .non (μ2.set n (.lst (xs ++ ys)))) : wp (eExt o a ρ μ) Q := by
  unfold eExt
  rw [wp_bind]
  refine h.mono fun l μ1 h => ?_
  rw [if_pos h.1, wp_bind]
  refine h.2.mono fun v μ2 h => ?_
  obtain ⟨n, xs, ys, rfl, e, e2, hz, h⟩ := h
  simp only [stL_o e, e2, if_pos hz]
  exact h
theorem w_dic0 (h : Q (.dct []) μ) : wp (eDic pNil ρ μ) Q := h
theorem w_dic1 {k : Str} {a : AE} (h : wp (a ρ μ) fun v μ1 => Q (.dct [(.str k, v)]) μ1) : wp (eDic (pCons (eC (.str k)) a pNil) ρ μ) Q := by
  unfold eDic pCons pNil
  simp only [eC_s, Res.bind_ok, wp_bind]
  refine h.mono fun v μ1 h => ?_
  simp [keysOf, keyOf]
  exact h
theorem w_gEq {x y : AV} {r : Bool} (e : eqB x y μ = some r) (hd : min (depM μ x) (depM μ y) ≤ 150) (h : Q (.bl r) μ) : wp (gEq x y μ) Q := by
  unfold gEq
  simp only [e, if_pos hd]
  exact h
theorem w_gNe {x y : AV} {r : Bool} (e : eqB x y μ = some r) (hd : min (depM μ x) (depM μ y) ≤ 150) (h : Q (.bl (!r)) μ) : wp (gNe x y μ) Q := by
  unfold gNe
  simp only [e, if_pos hd]
  exact h
theorem w_isi {x : AV} {n k : String} {b : Bool} (e : kindA μ x = some k) (e2 : isiB k n = some b) (h : Q (.bl b) μ) : wp (gIsi [x, .ty n] μ) Q := by
  unfold gIsi
  simp only [e, e2]
  exact h
theorem w_repr {x : AV} {d : PyData} (e : toD x = some d) (hk : repOk d = true) (h : Q (.str d.shown) μ) : wp (gRepr [x] μ) Q := by
  unfold gRepr
  simp only [e, if_pos hk]
  exact h
theorem w_str {i : Int} (hi : i.natAbs.log2 < 1920) (h : Q (.str (toString i)) μ) : wp (gStr [.int i] μ) Q := by
  unfold gStr
  simp only [if_pos hi]
  exact h
theorem w_all {xs : List AV} {bs : List Bool} (e : blsOf xs = some bs) (h : Q (.bl (bs.all _root_.id)) μ) : wp (gAll [.lst xs] μ) Q := by
  simp only [gAll, lsOf_lst, e]
  exact h
theorem w_rng {r : AA} (h : wp (r ρ μ) fun xs μ1 => ∃ j : Int, xs = [.int j] ∧ -4611686018427387904 ≤ j ∧ j < 4611686018427387904 ∧ QS (.dat (rangeL 0 j.toNat)) μ1) : wp (iRng r ρ μ) QS := by
  unfold iRng
  rw [wp_bind]
  refine h.mono fun xs μ1 h => ?_
  obtain ⟨j, rfl, h0, h1, h⟩ := h
  have e : (decide (-(2 ^ 62) ≤ j) && decide (j < 2 ^ 62)) = true := by
    rw [decide_eq_true (show -(2 ^ 62) ≤ j from h0), decide_eq_true (show j < 2 ^ 62 from h1)]
    rfl
  simp only [e, if_true]
  exact h
theorem w_anyT {r : AE} (h : wp (r ρ μ) fun x μ1 => ∃ xs, x = .tup xs ∧ QS (.dat xs) μ1) : wp (iAny r ρ μ) QS := by
  unfold iAny
  rw [wp_bind]
  refine h.mono fun xs μ1 h => ?_
  obtain ⟨j, rfl, h⟩ := h
  exact h
theorem w_anyL {r : AE} (h : wp (r ρ μ) fun x μ1 => ∃ xs, x = .lst xs ∧ QS (.dat xs) μ1) : wp (iAny r ρ μ) QS := by
  unfold iAny
  rw [wp_bind]
  refine h.mono fun xs μ1 h => ?_
  obtain ⟨j, rfl, h⟩ := h
  exact h
theorem w_anyO {r : AE} (h : wp (r ρ μ) fun x μ1 => ∃ n xs, x = .loc n ∧ μ1[n]? = some (.lst xs) ∧ QS (.live n) μ1) : wp (iAny r ρ μ) QS := by
  unfold iAny
  rw [wp_bind]
  refine h.mono fun xs μ1 h => ?_
  obtain ⟨j, xs, rfl, e, h⟩ := h
  simp only [e]
  exact h
theorem w_lcU {it : AI} {vs : List Nat} {g : AG} {tt : AT} {te : AE} (h : wp (it ρ μ) fun src μ1 => wp (lcF g tt te src FUEL 0 (wipeA ρ vs) [] μ1) QL) : wp (aLc it vs g tt te ρ μ) QL := by unfold aLc; rw [wp_bind]; exact h

theorem o_seq {a b : AS} (h : wo (a ρ μ) { D with nx := fun ρ1 μ1 => wo (b ρ1 μ1) D }) : wo (sSeq a b ρ μ) D := by rw [wo_seq]; exact h
theorem o_set {i : Nat} {r : AE} (h : wp (r ρ μ) fun v μ1 => D.nx (ρ.set i (some v)) μ1) : wo (sSet i r ρ μ) D := by rw [wo_set]; exact h
theorem o_ret {r : AE} (h : wp (r ρ μ) fun v μ1 => D.rt v μ1) : wo (sRet r ρ μ) D := by rw [wo_ret]; exact h
theorem o_expr {r : AE} (h : wp (r ρ μ) fun _ μ1 => D.nx ρ μ1) : wo (sExpr r ρ μ) D := by rw [wo_expr]; exact h
theorem o_if {t : AT} {a b : AS} (h : wp (t ρ μ) fun k μ1 => if k = true then wo (a ρ μ1) D else wo (b ρ μ1) D) : wo (sIf t a b ρ μ) D := by rw [wo_if]; exact h
theorem o_nil (h : D.nx ρ μ) : wo (sNil ρ μ) D := h
theorem o_for {it : AI} {g : AG} {b : AS} (h : wp (it ρ μ) fun src μ1 => wo (forF g b src FUEL 0 ρ μ1) D) : wo (sFor it g b ρ μ) D := by rw [wo_for]; exact h
theorem o_sub {o i r : AE} (h : wp (r ρ μ) fun v μ1 => wp (o ρ μ1) fun l μ2 => wp (i ρ μ2) fun j μ3 => ∃ n xs k m, l = .loc n ∧ j = .int k ∧ μ3[n]? = some (.lst xs) ∧ ixN xs.length k = some m ∧ D.nx ρ (μ3.set n (.lst (xs.set m v)))) : wo (sSub o i r ρ μ) D := by
  rw [sSub_s, wo_out]
  refine h.mono fun v μ1 h => ?_
  rw [wo_out]
  refine h.mono fun l μ2 h => ?_
  rw [wo_out]
  refine h.mono fun j μ3 h => ?_
  obtain ⟨n, xs, k, m, rfl, rfl, e, e2, h⟩ := h
  simp only [stL_o e, e2]
  exact h
theorem o_par {r : AA} {gs : AGs} (h : wp (r ρ μ) fun vs μ1 => vs.length ≤ 16777216 ∧ ∃ ρ1, gs vs ρ = some ρ1 ∧ D.nx ρ1 μ1) : wo (sPar r gs ρ μ) D := by
  unfold sPar
  rw [wo_out]
  refine h.mono fun vs μ1 h => ?_
  obtain ⟨hz, ρ1, e, h⟩ := h
  simp only [if_pos hz, e]
  exact h
theorem o_asg {r : AE} {g : AG} (h : wp (r ρ μ) fun v μ1 => ∃ ρ1, g v ρ = some ρ1 ∧ D.nx ρ1 μ1) : wo (sAsg r g ρ μ) D := by
  unfold sAsg
  rw [wo_out]
  refine h.mono fun vs μ1 h => ?_
  obtain ⟨ρ1, e, h⟩ := h
  simp only [e]
  exact h
end

section
variable {ρ : Loc} {μ : Store} {D : Kt} {Q : AV → Store → Prop} {QL : List AV → Store → Prop}
theorem w_dnew (h : Q (.loc μ.length) (μ ++ [.dct []])) : wp (eDNew ρ μ) Q := h
theorem w_dkeep {r : AD} (h : wp (r ρ μ) fun kvs μ1 => Q (.loc μ1.length) (μ1 ++ [.dct kvs])) : wp (eDKeep r ρ μ) Q := by
  unfold eDKeep
  rw [wp_bind]
  exact h
theorem stD_o {n : Nat} {kvs : List (Key × AV)} (e : μ[n]? = some (.dct kvs)) : stD μ (.loc n) = some (n, kvs) := by simp [stD, e]
theorem w_upd {o a : AE} (h : wp (o ρ μ) fun l μ1 => isDc μ1 l = true ∧ wp (a ρ μ1) fun v μ2 => ∃ n kvs m more, l = .loc n ∧ v = .loc m ∧ μ2[n]? = some (.dct kvs) ∧ μ2[m]? = some (.dct more) ∧ n ≠ m ∧ kvs.length + more.length ≤ 16777216 ∧ Q .non (μ2.set n (.dct (mergeA kvs more)))) : wp (eUpd o a ρ μ) Q := by
  unfold eUpd
  rw [wp_bind]
  refine h.mono fun l μ1 h => ?_
  rw [if_pos h.1, wp_bind]
  refine h.2.mono fun v μ2 h => ?_
  obtain ⟨n, kvs, m, more, rfl, rfl, e, e2, hne, hz, h⟩ := h
  simp only [stD_o e, stD_o e2]
  rw [if_pos ⟨hne, hz⟩]
  exact h
theorem o_dput {o i r : AE} (h : wp (r ρ μ) fun v μ1 => wp (o ρ μ1) fun l μ2 => wp (i ρ μ2) fun j μ3 => ∃ n kvs k, l = .loc n ∧ keyOf j = some k ∧ μ3[n]? = some (.dct kvs) ∧ kvs.length < 16777216 ∧ D.nx ρ (μ3.set n (.dct (putA kvs k v)))) : wo (sDPutA o i r ρ μ) D := by
  unfold sDPutA
  rw [wo_out]
  refine h.mono fun v μ1 h => ?_
  rw [wo_out]
  refine h.mono fun l μ2 h => ?_
  rw [wo_out]
  refine h.mono fun j μ3 h => ?_
  obtain ⟨n, kvs, k, rfl, ek, e, hz, h⟩ := h
  simp only [stD_o e, ek, if_pos hz]
  exact h
theorem w_sum {x : AV} {xs : List AV} {ns : List Int} (e : lsOf μ x = some xs) (e2 : intsOf xs = some ns) (h : Q (.int ns.sum) μ) : wp (gSum [x] μ) Q := by
  unfold gSum
  simp only [e, e2]
  exact h
theorem w_sortD {n : Nat} {kvs : List (Key × AV)} {ks : List Str} (e : μ[n]? = some (.dct kvs)) (e2 : strsOf (kvs.map (·.1)) = some ks) (hz : ks.length < 64) (h : QL ((sortS ks).map AV.str) μ) : wp (gSortD [.loc n] μ) QL := by
  unfold gSortD
  simp only [stD_o e, e2, if_pos hz]
  exact h
theorem w_pop0 {o : AE} (h : wp (o ρ μ) fun l μ1 => ∃ n xs y, l = .loc n ∧ μ1[n]? = some (.lst xs) ∧ xs[xs.length - 1]? = some y ∧ Q y (μ1.set n (.lst xs.dropLast))) : wp (ePop0 o ρ μ) Q := by
  unfold ePop0
  rw [wp_bind]
  refine h.mono fun l μ1 h => ?_
  obtain ⟨n, xs, y, rfl, e, e2, h⟩ := h
  simp only [stL_o e, e2]
  exact h
theorem w_pop1 {o a : AE} (h : wp (o ρ μ) fun l μ1 => isLs μ1 l = true ∧ wp (a ρ μ1) fun v μ2 => ∃ n xs i j y, l = .loc n ∧ v = .int i ∧ μ2[n]? = some (.lst xs) ∧ ixN xs.length i = some j ∧ xs.length ≤ 16777216 ∧ xs[j]? = some y ∧ Q y (μ2.set n (.lst (xs.eraseIdx j)))) : wp (ePop1 o a ρ μ) Q := by
  unfold ePop1
  rw [wp_bind]
  refine h.mono fun l μ1 h => ?_
  rw [if_pos h.1, wp_bind]
  refine h.2.mono fun v μ2 h => ?_
  obtain ⟨n, xs, i, j, y, rfl, rfl, e, ej, hz, ey, h⟩ := h
  simp only [stL_o e, ej, if_pos hz, ey]
  exact h

theorem wp_lcI {g : AG} {tt : AT} {te : AE} {xs : List AV} (W : Nat → List AV → Store → Prop) (hend : ∀ acc μ, W xs.length acc μ → QL acc μ)
    (step : ∀ i (v : AV) acc μ, xs[i]? = some v → W i acc μ → ∃ ρ1, g v ρ = some ρ1 ∧ wp (tt ρ1 μ) fun b μ1 => if b = true then wp (te ρ1 μ1) fun y μ2 => acc.length < 16777216 ∧ W (i + 1) (acc ++ [y]) μ2 else W (i + 1) acc μ1) :
    ∀ (m i : Nat) acc μ, xs.length - i < m → i ≤ xs.length → W i acc μ → wp (lcF g tt te (.dat xs) m i ρ acc μ) QL
  | 0, i, acc, μ, hm, _, _ => absurd hm (Nat.not_lt_zero _)
  | m + 1, i, acc, μ, hm, hi, h => by
    unfold lcF
    simp only [Src.at]
    cases e : xs[i]? with
    | none =>
      have : xs.length ≤ i := List.getElem?_eq_none_iff.mp e
      have hi' : i = xs.length := by omega
      subst hi'
      exact hend acc μ h
    | some v =>
      have hlt : i < xs.length := (List.getElem?_eq_some_iff.mp e).1
      obtain ⟨ρ1, eg, ht⟩ := step i v acc μ e h
      simp only [eg]
      obtain ⟨b, μ1, eb, ht⟩ := ht.elim
      rw [eb]
      simp only [Res.nox_ok, Res.bind_ok]
      cases b with
      | false =>
        simp only [Bool.false_eq_true, if_false] at ht ⊢
        exact wp_lcI W hend step m (i + 1) acc μ1 (by omega) (by omega) ht
      | true =>
        simp only [if_true] at ht ⊢
        obtain ⟨y, μ2, ey, hz, hy⟩ := ht.elim
        rw [ey]
        simp only [Res.nox_ok, Res.bind_ok, if_pos hz]
        exact wp_lcI W hend step m (i + 1) _ μ2 (by omega) (by omega) hy

theorem wp_lcO {g : AG} {tt : AT} {te : AE} {n : Nat} {xs : List AV} (W : Nat → List AV → Store → Prop) (at_ : ∀ i acc μ, W i acc μ → μ[n]? = some (.lst xs)) (hend : ∀ acc μ, W xs.length acc μ → QL acc μ)
    (step : ∀ i (v : AV) acc μ, xs[i]? = some v → W i acc μ → ∃ ρ1, g v ρ = some ρ1 ∧ wp (tt ρ1 μ) fun b μ1 => if b = true then wp (te ρ1 μ1) fun y μ2 => acc.length < 16777216 ∧ W (i + 1) (acc ++ [y]) μ2 else W (i + 1) acc μ1) :
    ∀ (m i : Nat) acc μ, xs.length - i < m → i ≤ xs.length → W i acc μ → wp (lcF g tt te (.live n) m i ρ acc μ) QL
  | 0, i, acc, μ, hm, _, _ => absurd hm (Nat.not_lt_zero _)
  | m + 1, i, acc, μ, hm, hi, h => by
    unfold lcF
    simp only [Src.at, at_ i acc μ h]
    cases e : xs[i]? with
    | none =>
      have : xs.length ≤ i := List.getElem?_eq_none_iff.mp e
      have hi' : i = xs.length := by omega
      subst hi'
      exact hend acc μ h
    | some v =>
      have hlt : i < xs.length := (List.getElem?_eq_some_iff.mp e).1
      obtain ⟨ρ1, eg, ht⟩ := step i v acc μ e h
      simp only [eg]
      obtain ⟨b, μ1, eb, ht⟩ := ht.elim
      rw [eb]
      simp only [Res.nox_ok, Res.bind_ok]
      cases b with
      | false =>
        simp only [Bool.false_eq_true, if_false] at ht ⊢
        exact wp_lcO W at_ hend step m (i + 1) acc μ1 (by omega) (by omega) ht
      | true =>
        simp only [if_true] at ht ⊢
        obtain ⟨y, μ2, ey, hz, hy⟩ := ht.elim
        rw [ey]
        simp only [Res.nox_ok, Res.bind_ok, if_pos hz]
        exact wp_lcO W at_ hend step m (i + 1) _ μ2 (by omega) (by omega) hy
abbrev QD := List (Key × AV) → Store → Prop
theorem w_dcU {Q : QD} {it : AI} {vs : List Nat} {g : AG} {tt : AT} {tk tv : AE} (h : wp (it ρ μ) fun src μ1 => wp (dcF g tt tk tv src FUEL 0 (wipeA ρ vs) [] μ1) Q) : wp (aDc it vs g tt tk tv ρ μ) Q := by unfold aDc; rw [wp_bind]; exact h
theorem wp_dc {Q : QD} {g : AG} {tk tv : AE} {xs : List AV} (W : Nat → List (Key × AV) → Store → Prop) (hend : ∀ acc μ, W xs.length acc μ → Q acc μ)
    (step : ∀ i (v : AV) acc μ, xs[i]? = some v → W i acc μ → ∃ ρ1, g v ρ = some ρ1 ∧ wp (tk ρ1 μ) fun y μ2 => wp (tv ρ1 μ2) fun z μ3 => ∃ k, keyOf y = some k ∧ acc.length < 16777216 ∧ W (i + 1) (putA acc k z) μ3) :
    ∀ (m i : Nat) acc μ, xs.length - i < m → i ≤ xs.length → W i acc μ → wp (dcF g tTrue tk tv (.dat xs) m i ρ acc μ) Q
  | 0, i, acc, μ, hm, _, _ => absurd hm (Nat.not_lt_zero _)
  | m + 1, i, acc, μ, hm, hi, h => by
    unfold dcF
    simp only [Src.at]
    cases e : xs[i]? with
    | none =>
      have : xs.length ≤ i := List.getElem?_eq_none_iff.mp e
      have hi' : i = xs.length := by omega
      subst hi'
      exact hend acc μ h
    | some v =>
      have hlt : i < xs.length := (List.getElem?_eq_some_iff.mp e).1
      obtain ⟨ρ1, eg, ht⟩ := step i v acc μ e h
      simp only [eg, tTrue, Res.nox_ok, Res.bind_ok, if_true]
      obtain ⟨y, μ2, ey, hy⟩ := ht.elim
      rw [ey]
      simp only [Res.nox_ok, Res.bind_ok]
      obtain ⟨z, μ3, ez, k, ek, hz, hw⟩ := hy.elim
      rw [ez]
      simp only [Res.nox_ok, Res.bind_ok, ek, if_pos hz]
      exact wp_dc W hend step m (i + 1) _ μ3 (by omega) (by omega) hw

theorem wo_while {t : AT} {b : AS} (W : Nat → Loc → Store → Prop)
    (step : ∀ m ρ μ, W m ρ μ → wp (t ρ μ) fun k μ1 => if k = true then wo (b ρ μ1) { D with nx := fun ρ2 μ2 => ∃ m', m' < m ∧ W m' ρ2 μ2, ct := fun ρ2 μ2 => ∃ m', m' < m ∧ W m' ρ2 μ2, bk := D.nx } else D.nx ρ μ1) :
    ∀ (n m : Nat) ρ μ, m < n → W m ρ μ → wo (whileF t b n ρ μ) D
  | 0, m, ρ, μ, hm, _ => absurd hm (Nat.not_lt_zero _)
  | n + 1, m, ρ, μ, hm, h => by
    unfold whileF
    rw [wo_out]
    refine (step m ρ μ h).mono fun k μ1 hk => ?_
    cases k with
    | false => simpa using hk
    | true =>
      simp only [if_true] at hk ⊢
      revert hk
      cases b ρ μ1 with
      | nx ρ2 μ2 => exact fun ⟨m', l, h'⟩ => wo_while W step n m' ρ2 μ2 (by omega) h'
      | ct ρ2 μ2 => exact fun ⟨m', l, h'⟩ => wo_while W step n m' ρ2 μ2 (by omega) h'
      | bk ρ2 μ2 => exact id
      | rt v μ2 => exact id
      | ex c p ρ2 μ2 => exact id
      | bad => exact id
theorem o_while {t : AT} {b : AS} (h : wo (whileF t b FUEL ρ μ) D) : wo (sWhile t b ρ μ) D := h
end
theorem w_len {n : Nat} {P : Prop} (h : n ≤ 16777216) (k : P) : n ≤ 16777216 ∧ P := ⟨h, k⟩
theorem startA_s {n : Nat} {as : List AV} : startA n as = as.map some ++ List.replicate (n - as.length) none := rfl
end Lr


namespace Lr
open PySem PySem.Spec L2
mutual
def sz : AV → Nat
  | .non => 4
  | .bl _ => 5
  | .int i => (PyData.shown (.int i)).length
  | .str x => (PyData.shown (.str x)).length
  | .tup xs => 3 + szL xs
  | .lst xs => 3 + szL xs
  | .dct kvs => 3 + szD kvs
  | _ => 0
def szL : List AV → Nat
  | [] => 0
  | x :: xs => sz x + 2 + szL xs
def szD : List (AV × AV) → Nat
  | [] => 0
  | (x, y) :: xs => sz x + sz y + 4 + szD xs
end
mutual

def sh : AV → Bool
  | .non => true
  | .bl _ => true
  | .str _ => true
  | .int i => decide (i.natAbs.log2 < 1920)
  | .tup xs => shL xs
  | .lst xs => shL xs
  | .dct kvs => shD kvs
  | _ => false
def shL : List AV → Bool
  | [] => true
  | x :: xs => sh x && shL xs
def shD : List (AV × AV) → Bool
  | [] => true
  | (x, y) :: xs => sh x && sh y && shD xs
end
def sumL (ts : List Str) : Nat := (ts.map fun t => t.length + 2).sum
theorem len_app (a b : Str) : (a ++ b).length = a.length + b.length := strLen_append a b
theorem textFrom_le : ∀ (ts : List Str) (k : Nat) (acc : Str), (textFrom k acc ts).length ≤ acc.length + sumL ts
  | [], k, acc => Nat.le_add_right _ _
  | t :: r, k, acc => by
    have ih := textFrom_le r (k + 1) (acc ++ (if k > 0 then ", " else "" : String) ++ t)
    have e : textFrom k acc (t :: r) = textFrom (k + 1) (acc ++ (if k > 0 then ", " else "" : String) ++ t) r := rfl
    rw [e]
    rw [len_app, len_app] at ih
    have h2 : (Str.ofString (if k > 0 then ", " else "" : String)).length ≤ 2 := by
      split <;> decide
    have : sumL (t :: r) = t.length + 2 + sumL r := by simp [sumL]
    have ih2 : (textFrom (k + 1) (acc ++ (if k > 0 then ", " else "" : String) ++ t) r).length ≤ acc.length + (Str.ofString (if k > 0 then ", " else "" : String)).length + t.length + sumL r := ih
    omega
theorem join_le : ∀ ts : List Str, (Str.join ", " ts).length ≤ sumL ts
  | [] => Nat.le_refl _
  | [x] => by show x.length ≤ _; simp [sumL]
  | x :: y :: r => by
    have ih := join_length_add (x :: y :: r) (by simp)
    have ih2 := join_le (y :: r)
    have e3 := join_length_add (y :: r) (by simp)
    have e : sumL (x :: y :: r) = x.length + 2 + sumL (y :: r) := by simp [sumL]
    have e2 : piled (x :: y :: r) = x.length + 2 + piled (y :: r) := by simp [piled]
    omega
theorem tupleText_le (ts : List Str) : (tupleText ts).length ≤ 3 + sumL ts := by
  unfold tupleText
  rw [len_app, len_app]
  have := join_le ts
  have h2 : (Str.ofString (if ts.length == 1 then ",)" else ")" : String)).length ≤ 2 := by split <;> decide
  have h1 : (Str.ofString "(").length = 1 := rfl
  have h3 : (Str.ofString "(").length + (Str.join ", " ts).length + (Str.ofString (if ts.length == 1 then ",)" else ")" : String)).length ≤ 3 + sumL ts := by omega
  exact h3
theorem listText_le (ts : List Str) : (listText ts).length ≤ 3 + sumL ts := by
  unfold listText
  rw [len_app]
  have := textFrom_le ts 0 "["
  have h1 : (Str.ofString "[").length = 1 := rfl
  have h2 : (Str.ofString "]").length = 1 := rfl
  have h3 : (textFrom 0 "[" ts).length + (Str.ofString "]").length ≤ 3 + sumL ts := by omega
  exact h3
theorem dictText_le (ts : List Str) : (dictText ts).length ≤ 3 + sumL ts := by
  unfold dictText
  rw [len_app, len_app]
  have := join_le ts
  have h1 : (Str.ofString "{").length = 1 := rfl
  have h2 : (Str.ofString "}").length = 1 := rfl
  have h3 : (Str.ofString "{").length + (Str.join ", " ts).length + (Str.ofString "}").length ≤ 3 + sumL ts := by omega
  exact h3
mutual
theorem toD_sh : ∀ v : AV, sh v = true → ∃ D, toD v = some D ∧ D.showable = true ∧ D.shown.length ≤ sz v ∧ D.depth ≤ dep v
  | .non, _ => ⟨_, rfl, rfl, by decide, Nat.le_refl _⟩
  | .bl b, _ => ⟨_, rfl, rfl, by cases b <;> decide, Nat.le_refl _⟩
  | .str x, _ => ⟨_, rfl, rfl, Nat.le_refl _, Nat.le_refl _⟩
  | .int i, h => ⟨_, rfl, by simpa [PyData.showable, sh] using h, Nat.le_refl _, Nat.le_refl _⟩
  | .tup xs, h => by
    obtain ⟨Ds, e, h1, h2, h3⟩ := toDL_sh xs (by simpa [sh] using h)
    exact ⟨.tuple Ds, by simp [toD, e], by simpa [PyData.showable] using h1, by
      have := tupleText_le (PyData.shownAll Ds)
      simp only [PyData.shown, sz]
      omega, by simp only [PyData.depth, dep]; omega⟩
  | .lst xs, h => by
    obtain ⟨Ds, e, h1, h2, h3⟩ := toDL_sh xs (by simpa [sh] using h)
    exact ⟨.list Ds, by simp [toD, e], by simpa [PyData.showable] using h1, by
      have := listText_le (PyData.shownAll Ds)
      simp only [PyData.shown, sz]
      omega, by simp only [PyData.depth, dep]; omega⟩
  | .dct xs, h => by
    obtain ⟨Ds, e, h1, h2, h3⟩ := toDD_sh xs (by simpa [sh] using h)
    exact ⟨.dict Ds, by simp [toD, e], by simpa [PyData.showable] using h1, by
      have := dictText_le (PyData.shownKv Ds)
      simp only [PyData.shown, sz]
      omega, by simp only [PyData.depth, dep]; omega⟩
  | .loc _, h => by simp [sh] at h
  | .obj _, h => by simp [sh] at h
  | .scr _, h => by simp [sh] at h
  | .ty _, h => by simp [sh] at h
theorem toDL_sh : ∀ v : List AV, shL v = true → ∃ D, toDL v = some D ∧ PyData.showableAll D = true ∧ sumL (PyData.shownAll D) ≤ szL v ∧ PyData.depthAll D ≤ depL v
  | [], _ => ⟨[], rfl, rfl, Nat.le_refl _, Nat.le_refl _⟩
  | x :: xs, h => by
    simp only [shL, Bool.and_eq_true] at h
    obtain ⟨D, e, h1, h2, h3⟩ := toD_sh x h.1
    obtain ⟨Ds, e', h1', h2', h3'⟩ := toDL_sh xs h.2
    refine ⟨D :: Ds, by simp [toDL, e, e'], by simp [PyData.showableAll, h1, h1'], ?_, by simp only [PyData.depthAll, depL]; omega⟩
    have : sumL (PyData.shownAll (D :: Ds)) = D.shown.length + 2 + sumL (PyData.shownAll Ds) := by simp [PyData.shownAll, sumL]
    simp only [szL]
    omega
theorem toDD_sh : ∀ v : List (AV × AV), shD v = true → ∃ D, toDD v = some D ∧ PyData.showableKv D = true ∧ sumL (PyData.shownKv D) ≤ szD v ∧ PyData.depthKv D ≤ depD v
  | [], _ => ⟨[], rfl, rfl, Nat.le_refl _, Nat.le_refl _⟩
  | (x, y) :: xs, h => by
    simp only [shD, Bool.and_eq_true] at h
    obtain ⟨D, e, h1, h2, h3⟩ := toD_sh x h.1.1
    obtain ⟨C, f, g1, g2, g3⟩ := toD_sh y h.1.2
    obtain ⟨Ds, e', h1', h2', h3'⟩ := toDD_sh xs h.2
    refine ⟨(D, C) :: Ds, by simp [toDD, e, f, e'], by simp [PyData.showableKv, h1, g1, h1'], ?_, by simp only [PyData.depthKv, depD]; omega⟩
    have : sumL (PyData.shownKv ((D, C) :: Ds)) = D.shown.length + 2 + C.shown.length + 2 + sumL (PyData.shownKv Ds) := by
      have z : (Str.ofString ": ").length = 2 := rfl
      have z2 : (D.shown ++ (": " : Str) ++ C.shown).length = D.shown.length + 2 + C.shown.length := by rw [len_app, len_app]; exact congrArg (fun q => D.shown.length + q + C.shown.length) z
      simp only [PyData.shownKv, sumL, List.map_cons, List.sum_cons]
      omega
    simp only [szD]
    omega
end

def Fit (c d : Nat) (v : AV) : Prop := sh v = true ∧ sz v ≤ c ∧ dep v ≤ d
theorem Fit.rep {c d : Nat} {v : AV} (h : Fit c d v) (hc : c ≤ 16777216) (hd : d ≤ 150) : ∃ D, toD v = some D ∧ repOk D = true := by
  obtain ⟨D, e, h1, h2, h3⟩ := toD_sh v h.1
  refine ⟨D, e, ?_⟩
  have := h.2.1
  have := h.2.2
  simp only [repOk, h1, Bool.true_and, Bool.and_eq_true, decide_eq_true_eq]
  omega
theorem Fit.mono {c d c' d' : Nat} {v : AV} (h : Fit c d v) (h1 : c ≤ c') (h2 : d ≤ d') : Fit c' d' v := ⟨h.1, by have := h.2.1; omega, by have := h.2.2; omega⟩
mutual
theorem sh_pure : ∀ v : AV, sh v = true → pure? v = true
  | .non, _ => rfl
  | .bl _, _ => rfl
  | .int _, _ => rfl
  | .str _, _ => rfl
  | .tup xs, h => by simp only [sh] at h; simp only [pure?]; exact shL_pure xs h
  | .lst xs, h => by simp only [sh] at h; simp only [pure?]; exact shL_pure xs h
  | .dct xs, h => by simp only [sh] at h; simp only [pure?]; exact shD_pure xs h
  | .loc _, h => by simp [sh] at h
  | .obj _, h => by simp [sh] at h
  | .scr _, h => by simp [sh] at h
  | .ty _, h => by simp [sh] at h
theorem shL_pure : ∀ v : List AV, shL v = true → pureL v = true
  | [], _ => rfl
  | x :: xs, h => by
    simp only [shL, Bool.and_eq_true] at h
    simp only [pureL, Bool.and_eq_true]
    exact ⟨sh_pure x h.1, shL_pure xs h.2⟩
theorem shD_pure : ∀ v : List (AV × AV), shD v = true → pureD v = true
  | [], _ => rfl
  | (x, y) :: xs, h => by
    simp only [shD, Bool.and_eq_true] at h
    simp only [pureD, Bool.and_eq_true]
    exact ⟨⟨sh_pure x h.1.1, sh_pure y h.1.2⟩, shD_pure xs h.2⟩
end
theorem Fit.pure {c d : Nat} {v : AV} (h : Fit c d v) : pure? v = true := sh_pure v h.1

def FitL (c d : Nat) (vs : List AV) : Prop := shL vs = true ∧ szL vs ≤ c ∧ depL vs ≤ d
theorem FitL.nil : FitL 0 0 [] := ⟨rfl, Nat.le_refl _, Nat.le_refl _⟩
theorem FitL.cons {c c' d d' : Nat} {v : AV} {vs : List AV} (h : Fit c d v) (g : FitL c' d' vs) : FitL (c + 2 + c') (max d d') (v :: vs) := by
  obtain ⟨h1, h2, h3⟩ := h
  obtain ⟨g1, g2, g3⟩ := g
  exact ⟨by simp [shL, h1, g1], by simp only [szL]; omega, by simp only [depL]; omega⟩
theorem FitL.mono {c d c' d' : Nat} {v : List AV} (h : FitL c d v) (h1 : c ≤ c') (h2 : d ≤ d') : FitL c' d' v := ⟨h.1, by have := h.2.1; omega, by have := h.2.2; omega⟩
theorem shL_app : ∀ xs ys : List AV, shL (xs ++ ys) = (shL xs && shL ys)
  | [], _ => rfl
  | x :: xs, ys => by rw [List.cons_append, shL, shL, shL_app xs ys, Bool.and_assoc]
theorem szL_app : ∀ xs ys : List AV, szL (xs ++ ys) = szL xs + szL ys
  | [], _ => by simp [szL]
  | x :: xs, ys => by rw [List.cons_append, szL, szL, szL_app xs ys]; omega
theorem depL_app : ∀ xs ys : List AV, depL (xs ++ ys) = max (depL xs) (depL ys)
  | [], _ => by simp [depL]
  | x :: xs, ys => by rw [List.cons_append, depL, depL, depL_app xs ys]; omega
theorem FitL.append {c c' d d' : Nat} {vs us : List AV} (h : FitL c d vs) (g : FitL c' d' us) : FitL (c + c') (max d d') (vs ++ us) := by
  obtain ⟨h1, h2, h3⟩ := h
  obtain ⟨g1, g2, g3⟩ := g
  exact ⟨by rw [shL_app, h1, g1]; rfl, by rw [szL_app]; omega, by rw [depL_app]; omega⟩
theorem FitL.left {c d : Nat} {vs us : List AV} (h : FitL c d (vs ++ us)) : FitL (szL vs) d vs := by
  obtain ⟨h1, h2, h3⟩ := h
  rw [shL_app, Bool.and_eq_true] at h1
  rw [depL_app] at h3
  exact ⟨h1.1, Nat.le_refl _, by omega⟩
theorem FitL.right {c d : Nat} {vs us : List AV} (h : FitL c d (vs ++ us)) : FitL (szL us) d us := by
  obtain ⟨h1, h2, h3⟩ := h
  rw [shL_app, Bool.and_eq_true] at h1
  rw [depL_app] at h3
  exact ⟨h1.2, Nat.le_refl _, by omega⟩
theorem FitL.tup {c d : Nat} {vs : List AV} (h : FitL c d vs) : Fit (3 + c) (d + 1) (.tup vs) := ⟨by simpa [sh] using h.1, by simp only [sz]; have := h.2.1; omega, by simp only [dep]; have := h.2.2; omega⟩
theorem FitL.lst {c d : Nat} {vs : List AV} (h : FitL c d vs) : Fit (3 + c) (d + 1) (.lst vs) := ⟨by simpa [sh] using h.1, by simp only [sz]; have := h.2.1; omega, by simp only [dep]; have := h.2.2; omega⟩
theorem Fit.of_tup {c d : Nat} {vs : List AV} (h : Fit c d (.tup vs)) : FitL (c - 3) (d - 1) vs := ⟨by simpa [sh] using h.1, by have := h.2.1; simp only [sz] at this; omega, by have := h.2.2; simp only [dep] at this; omega⟩
theorem Fit.non : Fit 4 0 .non := ⟨rfl, Nat.le_refl _, Nat.le_refl _⟩
theorem Fit.bl (b : Bool) : Fit 5 0 (.bl b) := ⟨rfl, Nat.le_refl _, Nat.le_refl _⟩
theorem FitL.mem {c d : Nat} {v : AV} : ∀ {vs : List AV}, FitL c d vs → v ∈ vs → Fit c d v
  | x :: xs, h, m => by
    obtain ⟨h1, h2, h3⟩ := h
    simp only [shL, Bool.and_eq_true] at h1
    simp only [szL] at h2
    simp only [depL] at h3
    rcases List.mem_cons.mp m with e | m
    · subst e
      exact ⟨h1.1, by omega, by omega⟩
    · exact FitL.mem (vs := xs) ⟨h1.2, by omega, by omega⟩ m
theorem FitL.of_all {c d n : Nat} : ∀ {vs : List AV}, (∀ v ∈ vs, Fit c d v) → vs.length ≤ n → FitL (n * (c + 2)) d vs
  | [], _, _ => ⟨rfl, by simp [szL], by simp [depL]⟩
  | x :: xs, h, l => by
    have hx := h x (List.mem_cons_self ..)
    have := FitL.of_all (n := n - 1) (fun v hv => h v (List.mem_cons_of_mem _ hv)) (by simp at l; omega) (vs := xs)
    have z := FitL.cons hx this
    have e : c + 2 + (n - 1) * (c + 2) = n * (c + 2) := by
      have : n ≠ 0 := by simp at l; omega
      obtain ⟨m, rfl⟩ := Nat.exists_eq_succ_of_ne_zero this
      simp only [Nat.succ_sub_one, Nat.succ_mul]
      omega
    rw [e] at z
    exact z.mono (Nat.le_refl _) (by omega)
mutual

def im (b : Nat) : AV → Bool
  | .int i => decide (i.natAbs ≤ b)
  | .tup xs => imL b xs
  | .lst xs => imL b xs
  | .dct kvs => imD b kvs
  | _ => true
def imL (b : Nat) : List AV → Bool
  | [] => true
  | x :: xs => im b x && imL b xs
def imD (b : Nat) : List (AV × AV) → Bool
  | [] => true
  | (x, y) :: xs => im b x && im b y && imD b xs
end
theorem imL_all (b : Nat) : ∀ xs : List AV, imL b xs = xs.all (im b)
  | [] => rfl
  | x :: xs => by rw [List.all_cons, ← imL_all b xs]; rfl
theorem imL_of {b : Nat} {xs : List AV} (h : ∀ x ∈ xs, im b x = true) : imL b xs = true := by
  rw [imL_all]
  exact List.all_eq_true.mpr h
theorem imL_mem {b : Nat} {xs : List AV} {x : AV} (h : imL b xs = true) (m : x ∈ xs) : im b x = true := by
  rw [imL_all] at h
  exact List.all_eq_true.mp h x m
mutual
theorem im_mono {b c : Nat} (l : b ≤ c) : ∀ v : AV, im b v = true → im c v = true
  | .int i, h => by simp only [im, decide_eq_true_eq] at h ⊢; omega
  | .tup xs, h => by simp only [im] at h ⊢; exact imL_mono l xs h
  | .lst xs, h => by simp only [im] at h ⊢; exact imL_mono l xs h
  | .dct xs, h => by simp only [im] at h ⊢; exact imD_mono l xs h
  | .non, _ => rfl
  | .bl _, _ => rfl
  | .str _, _ => rfl
  | .loc _, _ => rfl
  | .obj _, _ => rfl
  | .scr _, _ => rfl
  | .ty _, _ => rfl
theorem imL_mono {b c : Nat} (l : b ≤ c) : ∀ v : List AV, imL b v = true → imL c v = true
  | [], _ => rfl
  | x :: xs, h => by
    simp only [imL, Bool.and_eq_true] at h ⊢
    exact ⟨im_mono l x h.1, imL_mono l xs h.2⟩
theorem imD_mono {b c : Nat} (l : b ≤ c) : ∀ v : List (AV × AV), imD b v = true → imD c v = true
  | [], _ => rfl
  | (x, y) :: xs, h => by
    simp only [imD, Bool.and_eq_true] at h ⊢
    exact ⟨⟨im_mono l x h.1.1, im_mono l y h.1.2⟩, imD_mono l xs h.2⟩
end

theorem fit_int {i : Int} (h : i.natAbs < 10 ^ 100) : Fit 102 0 (.int i) := by
  have hl : i.natAbs.log2 < 1920 := by
    by_cases z : i.natAbs = 0
    · rw [z]; decide
    · refine (Nat.log2_lt z).mpr (Nat.lt_of_lt_of_le h ?_)
      exact Nat.le_trans (by decide : 10 ^ 100 ≤ 2 ^ 400) (Nat.pow_le_pow_right (by decide) (by decide))
  refine ⟨by simpa [sh] using hl, ?_, Nat.le_refl _⟩
  show (Str.ofString (toString i)).length ≤ 102
  by_cases z : i < 0
  · rw [PyProof.Rows.len_text_neg z]
    have := PyProof.Rows.toString_length_le (v := 0 - i) (by omega) (by decide : 0 < 100) (by omega)
    omega
  · have := PyProof.Rows.toString_length_le (v := i) (by omega) (by decide : 0 < 100) (by omega)
    omega
theorem cps_small (z : String) : ∀ c ∈ (Str.ofString z).cps.toList, c < 16 ^ 8 := by
  rw [Str.ofString_eq_toList]
  intro c hc
  simp only [List.mem_map] at hc
  obtain ⟨d, _, rfl⟩ := hc
  have h := d.valid
  have : d.toNat < 1114112 := by
    rcases h with h | h
    · exact Nat.lt_trans h (by decide)
    · exact h.2
  exact Nat.lt_trans this (by decide)

theorem fit_text {i : Int} (h : i.natAbs < 10 ^ 100) : Fit 1022 0 (.str (toString i : String)) := by
  refine ⟨rfl, ?_, Nat.le_refl _⟩
  show (reprText (Str.ofString (toString i))).length ≤ 1022
  have h1 := StrLaws.reprText_len _ (cps_small (toString i))
  have h2 : (Str.ofString (toString i)).length ≤ 102 := (fit_int h).2.1
  omega
end Lr

namespace Lr
open PySem PySem.Spec L2
@[reducible] def i1_is_name : Nat := 1
@[reducible] def i420_is_instruction : Nat := 420
@[reducible] def i421_is_composed : Nat := 421
@[reducible] def i19_parts_of : Nat := 19
@[reducible] def i17_is_program : Nat := 17
@[reducible] def i21_words_of : Nat := 21
@[reducible] def i13_law_hand : Nat := 13
@[reducible] def i2_law_take : Nat := 2
@[reducible] def i3_law_of : Nat := 3
@[reducible] def i7_law_names : Nat := 7
@[reducible] def i4_law_instruction : Nat := 4
@[reducible] def i5_law_tree : Nat := 5
@[reducible] def i6_law_nodes : Nat := 6
@[reducible] def i15_law_program : Nat := 15
@[reducible] def i14_law_size : Nat := 14
@[reducible] def i8_law_odd : Nat := 8
@[reducible] def i9_law_bent : Nat := 9
@[reducible] def i10_law_is_name : Nat := 10
@[reducible] def i11_law_is_one : Nat := 11
@[reducible] def i12_law_all_parts : Nat := 12
@[reducible] def i18_law_is_program : Nat := 18
@[reducible] def i16_law_edges : Nat := 16
@[reducible] def i422_law : Nat := 422
@[reducible] def i20_instructions : Nat := 20
@[reducible] def i27_names_of : Nat := 27
@[reducible] def i22_is_straight : Nat := 22
@[reducible] def i23_law_listed : Nat := 23
@[reducible] def i28_law_words : Nat := 28
@[reducible] def i26_law_handed : Nat := 26
@[reducible] def i25_law_some_programs : Nat := 25
@[reducible] def i24_law_is_plain : Nat := 24
@[reducible] def i419_law : Nat := 419
def m1_is_name (T : Nat → Fn) : AS := (sSeq (sIf (tOrr (tNt (tTr (eCB gIsi (aCons (eVar 0) (aCons (eC (.ty "str")) aNil))))) (tNt (tB1 (eChain gLe gLe (eC (.int 1)) (eCB gLen (aCons (eVar 0) aNil)) (eC (.int 8)))))) (sRet (eC (.bl false))) sNil) (sRet (eCB gAll (aCons (eDat (aLc (iStrS (eVar 0)) [1] (gNm 1) tTrue (eOp gIn (eVar 1) (eC (.str "abcdefghijklmnopqrstuvwxyz"))))) aNil))))
def m420_is_instruction (T : Nat → Fn) : AS := (sSeq (sIf (tOrr (tNt (tTr (eCB gIsi (aCons (eVar 0) (aCons (eC (.ty "tuple")) aNil))))) (tOrr (tB1 (eOp gEq (eVar 0) (eTup aNil))) (tNt (tTr (eCB gIsi (aCons (eOp gIx (eVar 0) (eC (.int 0))) (aCons (eC (.ty "str")) aNil))))))) (sRet (eC (.bl false))) sNil) (sSeq (sIf (tOrr (tB1 (eOp gNotIn (eOp gIx (eVar 0) (eC (.int 0))) (eTup (aCons (eC (.str "new")) (aCons (eC (.str "copy")) (aCons (eC (.str "use")) (aCons (eC (.str "drop")) aNil))))))) (tB1 (eOp gNe (eCB gLen (aCons (eVar 0) aNil)) (eIf (tB1 (eOp gEq (eOp gIx (eVar 0) (eC (.int 0))) (eC (.str "copy")))) (eC (.int 3)) (eC (.int 2)))))) (sRet (eC (.bl false))) sNil) (sRet (eCB gAll (aCons (eDat (aLc (iAny (eSl (eVar 0) (oSome (eC (.int 1))) oNone)) [1] (gNm 1) tTrue (eCall (T i1_is_name) (aCons (eVar 1) aNil)))) aNil)))))
def m421_is_composed (T : Nat → Fn) : AS := (sSeq (sIf (tOrr (tNt (tTr (eCB gIsi (aCons (eVar 0) (aCons (eC (.ty "tuple")) aNil))))) (tOrr (tB1 (eOp gNe (eCB gLen (aCons (eVar 0) aNil)) (eC (.int 2)))) (tNt (tTr (eCB gIsi (aCons (eOp gIx (eVar 0) (eC (.int 0))) (aCons (eC (.ty "str")) aNil))))))) (sRet (eC (.bl false))) sNil) (sSeq (sIf (tB1 (eOp gEq (eOp gIx (eVar 0) (eC (.int 0))) (eC (.str "loop")))) (sRet (eC (.bl true))) sNil) (sSeq (sIf (tNt (tTr (eCB gIsi (aCons (eOp gIx (eVar 0) (eC (.int 1))) (aCons (eC (.ty "tuple")) aNil))))) (sRet (eC (.bl false))) sNil) (sRet (eOr (eAn (eOp gEq (eOp gIx (eVar 0) (eC (.int 0))) (eC (.str "seq"))) (eOp gLe (eCB gLen (aCons (eOp gIx (eVar 0) (eC (.int 1))) aNil)) (eC (.int 20)))) (eAn (eOp gEq (eOp gIx (eVar 0) (eC (.int 0))) (eC (.str "branch"))) (eChain gLe gLe (eC (.int 1)) (eCB gLen (aCons (eOp gIx (eVar 0) (eC (.int 1))) aNil)) (eC (.int 6)))))))))
def m19_parts_of (T : Nat → Fn) : AS := (sSeq (sIf (tB1 (eOp gEq (eOp gIx (eVar 0) (eC (.int 0))) (eC (.str "loop")))) (sRet (eSl (eVar 0) (oSome (eC (.int 1))) oNone)) sNil) (sRet (eIf (tB1 (eOp gIn (eOp gIx (eVar 0) (eC (.int 0))) (eTup (aCons (eC (.str "seq")) (aCons (eC (.str "branch")) aNil))))) (eOp gIx (eVar 0) (eC (.int 1))) (eTup aNil))))
def m17_is_program (T : Nat → Fn) : AS := (sSeq (sPar (aCons (eNew (aLst (aCons (eTup (aCons (eVar 0) (aCons (eC (.int 1)) aNil))) aNil))) (aCons (eC (.int 0)) (aCons (eNew (aLst aNil)) aNil))) (gN1 (gNm 1) (gN1 (gNm 2) (gN1 (gNm 3) gN0)))) (sSeq (sWhile (tB1 (eOp gNe (eVar 1) (eDat (aLst aNil)))) (sSeq (sAsg (ePop0 (eVar 1)) (gTp (gN1 (gNm 4) (gN1 (gNm 5) gN0)))) (sSeq (sAug 2 gIAdd (eC (.int 1))) (sSeq (sIf (tOrr (tB1 (eOp gGt (eVar 2) (eC (.int 60)))) (tB1 (eOp gGt (eVar 5) (eC (.int 8))))) (sRet (eC (.bl false))) sNil) (sIf (tTr (eCall (T i420_is_instruction) (aCons (eVar 4) aNil))) (sExpr (eApp2 (eVar 3) (eVar 4))) (sIf (tNt (tTr (eCall (T i421_is_composed) (aCons (eVar 4) aNil)))) (sRet (eC (.bl false))) (sExpr (eExt (eVar 1) (eDat (aLc (iAny (eCall (T i19_parts_of) (aCons (eVar 4) aNil))) [6] (gNm 6) tTrue (eTup (aCons (eVar 6) (aCons (eOp gAdd (eVar 5) (eC (.int 1))) aNil))))))))))))) (sRet (eAn (eOp gLe (eCB gLen (aCons (eVar 3) aNil)) (eC (.int 40))) (eOp gLe (eCB gLen (aCons (eCall (T i21_words_of) (aCons (eVar 3) aNil)) aNil)) (eC (.int 8)))))))
def m21_words_of (T : Nat → Fn) : AS := (sSeq (sSet 1 eDNew) (sSeq (sFor (iAny (eVar 0)) (gNm 2) (sExpr (eUpd (eVar 1) (eDKeep (aDc (iAny (eSl (eVar 2) (oSome (eC (.int 1))) oNone)) [3] (gNm 3) tTrue (eVar 3) (eC (.bl true))))))) (sRet (eCB gTuple (aCons (eDat (aCB gSortD (aCons (eVar 1) aNil))) aNil)))))
def m13_law_hand (T : Nat → Fn) : AS := (sSeq (sSet 2 (eIf (tB1 (eOp gLt (eVar 1) (eCB gLen (aCons (eVar 0) aNil)))) (eOp gIx (eVar 0) (eVar 1)) (eC (.int 0)))) (sSeq (sSet 3 (eOp gMul (eOp gMod (eCB gAbs (aCons (eVar 2) aNil)) (eOp gMul (eOp gMul (eOp gPow (eC (.int 10)) (eC (.int 60))) (eOp gPow (eC (.int 10)) (eC (.int 60)))) (eOp gPow (eC (.int 10)) (eC (.int 60))))) (eCB gInt (aCons (eOp gGe (eCB gAbs (aCons (eVar 2) aNil)) (eOp gPow (eC (.int 10)) (eC (.int 18)))) aNil)))) (sRet (eNew (aLst (aCons (eVar 3) (aCons (eOp gMod (eOp gMul (eOp gAdd (eOp gAdd (eOp gMod (eVar 2) (eC (.int 2147483629))) (eOp gMul (eC (.int 7919)) (eVar 1))) (eC (.int 13))) (eC (.int 48271))) (eC (.int 2147483647))) (aCons (eC (.int 0)) aNil))))))))
def m2_law_take (T : Nat → Fn) : AS := (sSeq (sIf (tB1 (eOp gGt (eOp gIx (eVar 0) (eC (.int 0))) (eC (.int 0)))) (sSeq (sSet 2 (eOp gMod (eOp gIx (eVar 0) (eC (.int 0))) (eVar 1))) (sSeq (sSub (eVar 0) (eC (.int 0)) (eOp gDiv (eOp gIx (eVar 0) (eC (.int 0))) (eVar 1))) (sRet (eVar 2)))) sNil) (sSeq (sSub (eVar 0) (eC (.int 2)) (eOp gAdd (eOp gIx (eVar 0) (eC (.int 2))) (eC (.int 1)))) (sSeq (sSet 3 (eOp gIx (eDat (aLst (aCons (eC (.int 2147483647)) (aCons (eC (.int 2147483629)) (aCons (eC (.int 2147483587)) (aCons (eC (.int 2147483579)) (aCons (eC (.int 2147483563)) aNil))))))) (eOp gMod (eOp gIx (eVar 0) (eC (.int 2))) (eC (.int 5))))) (sSeq (sSet 4 (eOp gMod (eOp gPow (eOp gAdd (eOp gIx (eVar 0) (eC (.int 1))) (eOp gMul (eC (.int 7919)) (eOp gIx (eVar 0) (eC (.int 2))))) (eC (.int 3))) (eVar 3))) (sRet (eOp gMod (eOp gDiv (eOp gMod (eOp gMul (eVar 4) (eOp gAdd (eOp gMod (eVar 4) (eC (.int 1009))) (eOp gIx (eVar 0) (eC (.int 2))))) (eVar 3)) (eC (.int 11))) (eVar 1)))))))
def m3_law_of (T : Nat → Fn) : AS := (sRet (eOp gIx (eVar 1) (eCall (T i2_law_take) (aCons (eVar 0) (aCons (eCB gLen (aCons (eVar 1) aNil)) aNil)))))
def m7_law_names (T : Nat → Fn) : AS := (sSeq (sSet 2 (eNew (aLst (aCons (eC (.str "a")) (aCons (eC (.str "b")) (aCons (eC (.str "copytx")) (aCons (eC (.str "drop")) (aCons (eC (.str "fq")) (aCons (eC (.str "hijkmuvy")) (aCons (eC (.str "longname")) (aCons (eC (.str "new")) (aCons (eC (.str "seq")) (aCons (eC (.str "zz")) aNil))))))))))))) (sSeq (sWhile (tB1 (eOp gGt (eCB gLen (aCons (eVar 2) aNil)) (eVar 1))) (sExpr (ePop1 (eVar 2) (eCall (T i2_law_take) (aCons (eVar 0) (aCons (eCB gLen (aCons (eVar 2) aNil)) aNil)))))) (sRet (eVar 2))))
def m4_law_instruction (T : Nat → Fn) : AS := (sSeq (sPar (aCons (eCall (T i2_law_take) (aCons (eVar 0) (aCons (eC (.int 10)) aNil))) (aCons (eCall (T i3_law_of) (aCons (eVar 0) (aCons (eVar 1) aNil))) aNil)) (gN1 (gNm 2) (gN1 (gNm 3) gN0))) (sSeq (sIf (tB1 (eOp gLt (eVar 2) (eC (.int 2)))) (sRet (eTup (aCons (eC (.str "new")) (aCons (eVar 3) aNil)))) sNil) (sSeq (sIf (tB1 (eOp gLt (eVar 2) (eC (.int 6)))) (sRet (eTup (aCons (eC (.str "copy")) (aCons (eCall (T i3_law_of) (aCons (eVar 0) (aCons (eVar 1) aNil))) (aCons (eVar 3) aNil))))) sNil) (sRet (eIf (tB1 (eOp gLt (eVar 2) (eC (.int 8)))) (eTup (aCons (eC (.str "use")) (aCons (eVar 3) aNil))) (eTup (aCons (eC (.str "drop")) (aCons (eVar 3) aNil))))))))
def m5_law_tree (T : Nat → Fn) : AS := (sSeq (sSet 4 (eCall (T i2_law_take) (aCons (eVar 0) (aCons (eC (.int 8)) aNil)))) (sSeq (sIf (tOrr (tB1 (eOp gLt (eVar 2) (eC (.int 2)))) (tOrr (tB1 (eOp gLt (eVar 3) (eC (.int 2)))) (tB1 (eOp gEq (eVar 4) (eC (.int 0)))))) (sRet (eCall (T i4_law_instruction) (aCons (eVar 0) (aCons (eVar 1) aNil)))) sNil) (sSeq (sIf (tB1 (eOp gEq (eVar 4) (eC (.int 1)))) (sRet (eTup (aCons (eC (.str "loop")) (aCons (eCall (T i5_law_tree) (aCons (eVar 0) (aCons (eVar 1) (aCons (eVar 2) (aCons (eOp gSub (eVar 3) (eC (.int 1))) aNil))))) aNil)))) sNil) (sSeq (sSet 5 (eCB gMin (aCons (eVar 2) (aCons (eCall (T i3_law_of) (aCons (eVar 0) (aCons (eDat (aLst (aCons (eC (.int 2)) (aCons (eC (.int 2)) (aCons (eC (.int 3)) (aCons (eC (.int 3)) (aCons (eC (.int 4)) (aCons (eC (.int 5)) (aCons (eIf (tB1 (eOp gGt (eVar 4) (eC (.int 3)))) (eC (.int 18)) (eC (.int 5))) aNil))))))))) aNil))) aNil)))) (sSeq (sSet 6 (eCB gTuple (aCons (eDat (aLc (iRng (aCons (eVar 5) aNil)) [8] (gNm 8) tTrue (eCall (T i5_law_tree) (aCons (eVar 0) (aCons (eVar 1) (aCons (eOp gDiv (eVar 2) (eVar 5)) (aCons (eOp gSub (eVar 3) (eC (.int 1))) aNil))))))) aNil))) (sSeq (sIf (tB1 (eOp gLt (eVar 4) (eC (.int 4)))) (sSeq (sSet 7 (eOp gMul (eTup (aCons (eTup (aCons (eC (.str "seq")) (aCons (eTup aNil) aNil))) aNil)) (eCB gInt (aCons (eOp gEq (eCall (T i2_law_take) (aCons (eVar 0) (aCons (eC (.int 3)) aNil))) (eC (.int 0))) aNil)))) (sRet (eTup (aCons (eC (.str "branch")) (aCons (eOp gAdd (eVar 6) (eVar 7)) aNil))))) sNil) (sRet (eTup (aCons (eC (.str "seq")) (aCons (eVar 6) aNil))))))))))
def m6_law_nodes (T : Nat → Fn) : AS := (sSeq (sIf (tB1 (eOp gEq (eOp gIx (eVar 0) (eC (.int 0))) (eC (.str "loop")))) (sRet (eOp gAdd (eC (.int 1)) (eCall (T i6_law_nodes) (aCons (eOp gIx (eVar 0) (eC (.int 1))) aNil)))) sNil) (sSeq (sIf (tB1 (eOp gIn (eOp gIx (eVar 0) (eC (.int 0))) (eTup (aCons (eC (.str "seq")) (aCons (eC (.str "branch")) aNil))))) (sRet (eOp gAdd (eC (.int 1)) (eCB gSum (aCons (eDat (aLc (iAny (eOp gIx (eVar 0) (eC (.int 1)))) [1] (gNm 1) tTrue (eCall (T i6_law_nodes) (aCons (eVar 1) aNil)))) aNil)))) sNil) (sRet (eC (.int 1)))))
def m15_law_program (T : Nat → Fn) : AS := (sSeq (sSet 2 (eCall (T i7_law_names) (aCons (eVar 0) (aCons (eCall (T i3_law_of) (aCons (eVar 0) (aCons (eDat (aLst (aCons (eC (.int 1)) (aCons (eC (.int 2)) (aCons (eC (.int 2)) (aCons (eC (.int 3)) (aCons (eC (.int 3)) (aCons (eC (.int 4)) (aCons (eC (.int 5)) (aCons (eC (.int 6)) (aCons (eC (.int 7)) (aCons (eC (.int 8)) aNil)))))))))))) aNil))) aNil)))) (sSeq (sSet 3 (eCall (T i5_law_tree) (aCons (eVar 0) (aCons (eVar 2) (aCons (eCB gMax (aCons (eC (.int 1)) (aCons (eOp gSub (eVar 1) (eC (.int 4))) aNil))) (aCons (eCall (T i3_law_of) (aCons (eVar 0) (aCons (eDat (aLst (aCons (eC (.int 3)) (aCons (eC (.int 5)) (aCons (eC (.int 5)) (aCons (eC (.int 6)) aNil)))))) aNil))) aNil)))))) (sSeq (sSet 4 (eTup (aCons (eTup (aCons (eC (.str "new")) (aCons (eCall (T i3_law_of) (aCons (eVar 0) (aCons (eVar 2) aNil))) aNil))) (aCons (eTup (aCons (eC (.str "copy")) (aCons (eCall (T i3_law_of) (aCons (eVar 0) (aCons (eVar 2) aNil))) (aCons (eCall (T i3_law_of) (aCons (eVar 0) (aCons (eVar 2) aNil))) aNil)))) aNil)))) (sSeq (sSet 5 (eCB gTuple (aCons (eDat (aLc (iRng (aCons (eC (.int 2)) aNil)) [7] (gNm 7) tTrue (eTup (aCons (eC (.str "use")) (aCons (eCall (T i3_law_of) (aCons (eVar 0) (aCons (eVar 2) aNil))) aNil))))) aNil))) (sSeq (sSet 6 (eTup (aCons (eC (.str "seq")) (aCons (eOp gAdd (eOp gAdd (eSl (eVar 4) oNone (oSome (eOp gAdd (eC (.int 1)) (eCall (T i2_law_take) (aCons (eVar 0) (aCons (eC (.int 2)) aNil)))))) (eTup (aCons (eVar 3) aNil))) (eVar 5)) aNil)))) (sSeq (sIf (tB1 (eOp gGt (eCall (T i6_law_nodes) (aCons (eVar 6) aNil)) (eC (.int 60)))) (sSet 6 (eTup (aCons (eC (.str "seq")) (aCons (eOp gAdd (eVar 4) (eVar 5)) aNil)))) sNil) (sRet (eIf (tOrr (tB1 (eOp gGt (eCall (T i2_law_take) (aCons (eVar 0) (aCons (eC (.int 9)) aNil))) (eC (.int 0)))) (tB1 (eOp gGt (eCall (T i6_law_nodes) (aCons (eVar 3) aNil)) (eC (.int 60))))) (eVar 6) (eVar 3)))))))))
def m14_law_size (T : Nat → Fn) : AS := (sRet (eCall (T i3_law_of) (aCons (eVar 0) (aCons (eDat (aLst (aCons (eC (.int 4)) (aCons (eC (.int 6)) (aCons (eC (.int 8)) (aCons (eC (.int 10)) (aCons (eC (.int 12)) (aCons (eC (.int 12)) (aCons (eC (.int 16)) (aCons (eC (.int 20)) (aCons (eC (.int 30)) (aCons (eC (.int 40)) aNil)))))))))))) aNil))))
def m8_law_odd (T : Nat → Fn) : AS := (sSeq (sSet 1 (eDat (aLst (aCons (eC .non) (aCons (eC (.bl true)) (aCons (eC (.bl false)) (aCons (eC (.int 0)) (aCons (eC (.int 1)) (aCons (eNeg (eC (.int 1))) (aCons (eC (.int 40)) (aCons (eOp gPow (eC (.int 10)) (eC (.int 30))) (aCons (eC (.str "")) (aCons (eC (.str "a")) (aCons (eC (.str "A")) (aCons (eC (.str "longname")) (aCons (eC (.str "toolongname")) (aCons (eC (.str "a1")) (aCons (eC (.str "new a")) (aCons (eC (.str "seq()")) aNil))))))))))))))))))) (sSeq (sSet 1 (eDat (aCat (eVar 1) (eDat (aLst (aCons (eTup aNil) (aCons (eDat (aLst aNil)) (aCons (eDic pNil) (aCons (eTup (aCons (eC (.str "a")) aNil)) (aCons (eTup (aCons (eC (.str "new")) aNil)) (aCons (eTup (aCons (eC (.str "seq")) aNil)) (aCons (eTup (aCons (eC (.str "new")) (aCons (eC (.str "a")) aNil))) (aCons (eDat (aLst (aCons (eC (.str "new")) (aCons (eC (.str "a")) aNil)))) (aCons (eDic (pCons (eC (.str "a")) (eTup aNil) pNil)) aNil)))))))))))))) (sSeq (sSet 1 (eDat (aCat (eVar 1) (eDat (aLst (aCons (eTup (aCons (eC (.str "seq")) (aCons (eTup aNil) aNil))) (aCons (eTup (aCons (eTup aNil) aNil)) (aCons (eTup (aCons (eC (.int 0)) aNil)) aNil)))))))) (sSeq (sSet 2 (eCall (T i3_law_of) (aCons (eVar 0) (aCons (eVar 1) aNil)))) (sSeq (sFor (iRng (aCons (eCall (T i3_law_of) (aCons (eVar 0) (aCons (eDat (aLst (aCons (eC (.int 0)) (aCons (eC (.int 0)) (aCons (eC (.int 0)) (aCons (eC (.int 1)) (aCons (eC (.int 3)) (aCons (eC (.int 18)) aNil)))))))) aNil))) aNil)) (gNm 3) (sSet 2 (eCall (T i3_law_of) (aCons (eVar 0) (aCons (eDat (aLst (aCons (eTup (aCons (eVar 2) aNil)) (aCons (eDat (aLst (aCons (eVar 2) aNil))) (aCons (eDic (pCons (eC (.str "a")) (eVar 2) pNil)) aNil))))) aNil))))) (sRet (eVar 2)))))))
def m9_law_bent (T : Nat → Fn) : AS := (sSeq (sIf (tOrr (tNt (tTr (eCB gIsi (aCons (eVar 1) (aCons (eC (.ty "tuple")) aNil))))) (tOrr (tB1 (eOp gEq (eVar 1) (eTup aNil))) (tOrr (tB1 (eOp gEq (eVar 2) (eC (.int 0)))) (tB1 (eOp gEq (eCall (T i2_law_take) (aCons (eVar 0) (aCons (eC (.int 6)) aNil))) (eC (.int 0))))))) (sSeq (sIf (tOrr (tNt (tTr (eCB gIsi (aCons (eVar 1) (aCons (eC (.ty "tuple")) aNil))))) (tB1 (eOp gEq (eCall (T i2_law_take) (aCons (eVar 0) (aCons (eC (.int 3)) aNil))) (eC (.int 0))))) (sRet (eCall (T i8_law_odd) (aCons (eVar 0) aNil))) sNil) (sRet (eCall (T i3_law_of) (aCons (eVar 0) (aCons (eDat (aLst (aCons (eDat (aCB gList (aCons (eVar 1) aNil))) (aCons (eRev (eVar 1)) (aCons (eOp gAdd (eVar 1) (eSl (eVar 1) (oSome (eNeg (eC (.int 1)))) oNone)) (aCons (eSl (eVar 1) oNone (oSome (eNeg (eC (.int 1))))) (aCons (eTup (aCons (eVar 1) aNil)) aNil))))))) aNil))))) sNil) (sSeq (sSet 3 (eCall (T i2_law_take) (aCons (eVar 0) (aCons (eCB gLen (aCons (eVar 1) aNil)) aNil)))) (sSeq (sSet 4 (eCall (T i2_law_take) (aCons (eVar 0) (aCons (eC (.int 9)) aNil)))) (sSeq (sIf (tB1 (eOp gEq (eVar 4) (eC (.int 0)))) (sRet (eOp gAdd (eSl (eVar 1) oNone (oSome (eVar 3))) (eSl (eVar 1) (oSome (eOp gAdd (eVar 3) (eC (.int 1)))) oNone))) sNil) (sSeq (sIf (tB1 (eOp gEq (eVar 4) (eC (.int 1)))) (sRet (eOp gAdd (eSl (eVar 1) oNone (oSome (eOp gAdd (eVar 3) (eC (.int 1))))) (eSl (eVar 1) (oSome (eVar 3)) oNone))) sNil) (sRet (eOp gAdd (eOp gAdd (eSl (eVar 1) oNone (oSome (eVar 3))) (eTup (aCons (eCall (T i9_law_bent) (aCons (eVar 0) (aCons (eOp gIx (eVar 1) (eVar 3)) (aCons (eOp gSub (eVar 2) (eC (.int 1))) aNil)))) aNil))) (eSl (eVar 1) (oSome (eOp gAdd (eVar 3) (eC (.int 1)))) oNone))))))))
def m10_law_is_name (T : Nat → Fn) : AS := (sSeq (sIf (tOrr (tNt (tTr (eCB gIsi (aCons (eVar 0) (aCons (eC (.ty "str")) aNil))))) (tNt (tB1 (eChain gLt gLt (eC (.int 0)) (eCB gLen (aCons (eVar 0) aNil)) (eC (.int 9)))))) (sRet (eC (.bl false))) sNil) (sRet (eCB gAll (aCons (eDat (aLc (iStrS (eVar 0)) [1] (gNm 1) tTrue (eOp gIn (eVar 1) (eC (.str "abcdefghijklmnopqrstuvwxyz"))))) aNil))))
def m11_law_is_one (T : Nat → Fn) : AS := (sSeq (sIf (tOrr (tNt (tTr (eCB gIsi (aCons (eVar 0) (aCons (eC (.ty "tuple")) aNil))))) (tOrr (tB1 (eOp gLt (eCB gLen (aCons (eVar 0) aNil)) (eC (.int 2)))) (tNt (tTr (eCB gIsi (aCons (eOp gIx (eVar 0) (eC (.int 0))) (aCons (eC (.ty "str")) aNil))))))) (sRet (eC (.bl false))) sNil) (sSeq (sIf (tNt (tTr (eCB gAll (aCons (eDat (aLc (iAny (eSl (eVar 0) (oSome (eC (.int 1))) oNone)) [1] (gNm 1) tTrue (eCall (T i10_law_is_name) (aCons (eVar 1) aNil)))) aNil)))) (sRet (eC (.bl false))) sNil) (sRet (eIf (tB1 (eOp gEq (eOp gIx (eVar 0) (eC (.int 0))) (eC (.str "copy")))) (eOp gEq (eCB gLen (aCons (eVar 0) aNil)) (eC (.int 3))) (eAn (eOp gEq (eCB gLen (aCons (eVar 0) aNil)) (eC (.int 2))) (eOp gIn (eOp gIx (eVar 0) (eC (.int 0))) (eTup (aCons (eC (.str "new")) (aCons (eC (.str "use")) (aCons (eC (.str "drop")) aNil))))))))))
def m12_law_all_parts (T : Nat → Fn) : AS := (sSeq (sIf (tTr (eCall (T i11_law_is_one) (aCons (eVar 0) aNil))) (sRet (eDat (aLst (aCons (eTup (aCons (eVar 0) (aCons (eVar 1) aNil))) aNil)))) sNil) (sSeq (sIf (tOrr (tNt (tTr (eCB gIsi (aCons (eVar 0) (aCons (eC (.ty "tuple")) aNil))))) (tOrr (tB1 (eOp gNe (eCB gLen (aCons (eVar 0) aNil)) (eC (.int 2)))) (tOrr (tNt (tTr (eCB gIsi (aCons (eOp gIx (eVar 0) (eC (.int 0))) (aCons (eC (.ty "str")) aNil))))) (tB1 (eOp gGt (eVar 1) (eC (.int 20))))))) (sRet (eDat (aLst (aCons (eTup (aCons (eC .non) (aCons (eVar 1) aNil))) aNil)))) sNil) (sSeq (sIf (tB1 (eOp gEq (eOp gIx (eVar 0) (eC (.int 0))) (eC (.str "loop")))) (sRet (eDat (aCat (eDat (aLst (aCons (eTup (aCons (eVar 0) (aCons (eVar 1) aNil))) aNil))) (eCall (T i12_law_all_parts) (aCons (eOp gIx (eVar 0) (eC (.int 1))) (aCons (eOp gAdd (eVar 1) (eC (.int 1))) aNil)))))) sNil) (sSeq (sSet 2 (eDGet2 (eDKeep (aDisp (pCons (eC (.str "seq")) (eC (.int 20)) (pCons (eC (.str "branch")) (eC (.int 6)) pNil)))) (eOp gIx (eVar 0) (eC (.int 0))) (eNeg (eC (.int 1))))) (sSeq (sIf (tOrr (tNt (tTr (eCB gIsi (aCons (eOp gIx (eVar 0) (eC (.int 1))) (aCons (eC (.ty "tuple")) aNil))))) (tOrr (tB1 (eOp gGt (eCB gLen (aCons (eOp gIx (eVar 0) (eC (.int 1))) aNil)) (eVar 2))) (tB1 (eOp gEq (eVar 0) (eTup (aCons (eC (.str "branch")) (aCons (eTup aNil) aNil))))))) (sRet (eDat (aLst (aCons (eTup (aCons (eC .non) (aCons (eVar 1) aNil))) aNil)))) sNil) (sSeq (sSet 3 (eNew (aLst (aCons (eTup (aCons (eVar 0) (aCons (eVar 1) aNil))) aNil)))) (sSeq (sFor (iAny (eOp gIx (eVar 0) (eC (.int 1)))) (gNm 4) (sExpr (eExt (eVar 3) (eCall (T i12_law_all_parts) (aCons (eVar 4) (aCons (eOp gAdd (eVar 1) (eC (.int 1))) aNil)))))) (sRet (eVar 3)))))))))
def m18_law_is_program (T : Nat → Fn) : AS := (sSeq (sSet 1 (eCall (T i12_law_all_parts) (aCons (eVar 0) (aCons (eC (.int 1)) aNil)))) (sSeq (sIf (tOrr (tB1 (eOp gGt (eCB gLen (aCons (eVar 1) aNil)) (eC (.int 60)))) (tTr (eCB gAny (aCons (eDat (aLc (iAny (eVar 1)) [4, 6] (gTp (gN1 (gNm 4) (gN1 (gNm 6) gN0))) tTrue (eOr (eOp gIs (eVar 4) (eC .non)) (eOp gGt (eVar 6) (eC (.int 8)))))) aNil)))) (sRet (eC (.bl false))) sNil) (sSeq (sPar (aCons (eDat (aLc (iAny (eVar 1)) [4, 6] (gTp (gN1 (gNm 4) (gN1 (gNm 6) gN0))) (tTr (eCall (T i11_law_is_one) (aCons (eVar 4) aNil))) (eVar 4))) (aCons eDNew aNil)) (gN1 (gNm 2) (gN1 (gNm 3) gN0))) (sSeq (sFor (iAny (eVar 2)) (gNm 4) (sFor (iAny (eSl (eVar 4) (oSome (eC (.int 1))) oNone)) (gNm 5) (sDPutA (eVar 3) (eVar 5) (eC (.bl true))))) (sRet (eAn (eOp gLe (eCB gLen (aCons (eVar 2) aNil)) (eC (.int 40))) (eOp gLe (eCB gLenD (aCons (eVar 3) aNil)) (eC (.int 8)))))))))
def m16_law_edges (T : Nat → Fn) : AS := (sSeq (sPar (aCons (eCall (T i3_law_of) (aCons (eVar 0) (aCons (eDat (aLst (aCons (eTup (aCons (eC (.str "new")) (aCons (eC (.str "a")) aNil))) (aCons (eTup (aCons (eC (.str "copy")) (aCons (eC (.str "a")) (aCons (eC (.str "a")) aNil)))) (aCons (eTup (aCons (eC (.str "use")) (aCons (eC (.str "a")) aNil))) (aCons (eTup (aCons (eC (.str "drop")) (aCons (eC (.str "a")) aNil))) aNil)))))) aNil))) (aCons (eNew (aLst aNil)) aNil)) (gN1 (gNm 1) (gN1 (gNm 2) gN0))) (sSeq (sFor (iAny (eTup (aCons (eC (.int 0)) (aCons (eC (.int 1)) (aCons (eC (.int 6)) (aCons (eC (.int 7)) (aCons (eC (.int 20)) (aCons (eC (.int 21)) aNil)))))))) (gNm 3) (sExpr (eExt (eVar 2) (eDat (aLst (aCons (eTup (aCons (eC (.str "seq")) (aCons (eOp gMul (eTup (aCons (eVar 1) aNil)) (eVar 3)) aNil))) (aCons (eTup (aCons (eC (.str "branch")) (aCons (eOp gMul (eTup (aCons (eVar 1) aNil)) (eVar 3)) aNil))) (aCons (eTup (aCons (eC (.str "seq")) (aCons (eOp gMul (eTup (aCons (eTup (aCons (eC (.str "seq")) (aCons (eTup aNil) aNil))) aNil)) (eVar 3)) aNil))) aNil)))))))) (sSeq (sFor (iAny (eTup (aCons (eC (.int 39)) (aCons (eC (.int 40)) (aCons (eC (.int 41)) aNil))))) (gNm 3) (sSeq (sSet 4 (eOp gMul (eTup (aCons (eVar 1) aNil)) (eCB gInt (aCons (eOp gEq (eVar 3) (eC (.int 41))) aNil)))) (sExpr (eApp2 (eVar 2) (eTup (aCons (eC (.str "seq")) (aCons (eOp gAdd (eTup (aCons (eTup (aCons (eC (.str "seq")) (aCons (eOp gMul (eTup (aCons (eVar 1) aNil)) (eC (.int 20))) aNil))) (aCons (eTup (aCons (eC (.str "seq")) (aCons (eOp gMul (eTup (aCons (eVar 1) aNil)) (eCB gMin (aCons (eC (.int 20)) (aCons (eOp gSub (eVar 3) (eC (.int 20))) aNil)))) aNil))) aNil))) (eVar 4)) aNil))))))) (sSeq (sFor (iAny (eTup (aCons (eC (.int 18)) (aCons (eC (.int 19)) (aCons (eC (.int 20)) aNil))))) (gNm 3) (sSeq (sSet 5 (eTup (aCons (eTup (aCons (eC (.str "seq")) (aCons (eTup aNil) aNil))) aNil))) (sExpr (eApp2 (eVar 2) (eTup (aCons (eC (.str "seq")) (aCons (eTup (aCons (eTup (aCons (eC (.str "seq")) (aCons (eOp gMul (eVar 5) (eC (.int 19))) aNil))) (aCons (eTup (aCons (eC (.str "seq")) (aCons (eOp gMul (eVar 5) (eC (.int 18))) aNil))) (aCons (eTup (aCons (eC (.str "seq")) (aCons (eOp gMul (eVar 5) (eVar 3)) aNil))) aNil)))) aNil))))))) (sSeq (sFor (iAny (eTup (aCons (eC (.int 7)) (aCons (eC (.int 8)) (aCons (eC (.int 9)) aNil))))) (gNm 6) (sSeq (sSet 7 (eVar 1)) (sSeq (sFor (iRng (aCons (eOp gSub (eVar 6) (eC (.int 1))) aNil)) (gNm 8) (sSet 7 (eCall (T i3_law_of) (aCons (eVar 0) (aCons (eDat (aLst (aCons (eTup (aCons (eC (.str "loop")) (aCons (eVar 7) aNil))) (aCons (eTup (aCons (eC (.str "seq")) (aCons (eTup (aCons (eVar 7) aNil)) aNil))) (aCons (eTup (aCons (eC (.str "branch")) (aCons (eTup (aCons (eVar 7) (aCons (eVar 1) aNil))) aNil))) (aCons (eTup (aCons (eC (.str "seq")) (aCons (eTup (aCons (eVar 1) (aCons (eVar 7) aNil))) aNil))) aNil)))))) aNil))))) (sExpr (eApp2 (eVar 2) (eVar 7)))))) (sSeq (sFor (iAny (eTup (aCons (eC (.int 7)) (aCons (eC (.int 8)) (aCons (eC (.int 9)) aNil))))) (gNm 3) (sExpr (eApp2 (eVar 2) (eTup (aCons (eC (.str "seq")) (aCons (eCB gTuple (aCons (eDat (aLc (iStrS (eSl (eC (.str "abcdefghi")) oNone (oSome (eVar 3)))) [9] (gNm 9) tTrue (eTup (aCons (eC (.str "copy")) (aCons (eVar 9) (aCons (eC (.str "a")) aNil)))))) aNil)) aNil)))))) (sSeq (sSet 2 (eNew (aCat (eVar 2) (eDat (aLst (aCons (eTup (aCons (eC (.str "loop")) (aCons (eTup (aCons (eC (.str "seq")) (aCons (eTup aNil) aNil))) aNil))) (aCons (eTup (aCons (eC (.str "loop")) (aCons (eVar 1) (aCons (eVar 1) aNil)))) (aCons (eTup (aCons (eC (.str "loop")) aNil)) (aCons (eTup (aCons (eC (.str "loop")) (aCons (eTup aNil) aNil))) aNil))))))))) (sRet (eDat (aCat (eVar 2) (eDat (aLst (aCons (eTup (aCons (eC (.str "seq")) (aCons (eDat (aLst (aCons (eVar 1) aNil))) aNil))) (aCons (eTup (aCons (eC (.str "seq")) (aCons (eVar 1) aNil))) (aCons (eTup (aCons (eC (.str "branch")) (aCons (eDat (aLst (aCons (eVar 1) aNil))) aNil))) aNil)))))))))))))))
def m422_law (T : Nat → Fn) : AS := (sSeq (sFor (iRng (aCons (eCB gMax (aCons (eC (.int 1)) (aCons (eCB gMin (aCons (eC (.int 3)) (aCons (eCB gLen (aCons (eVar 0) aNil)) aNil))) aNil))) aNil)) (gNm 1) (sSeq (sSet 2 (eCall (T i13_law_hand) (aCons (eVar 0) (aCons (eVar 1) aNil)))) (sSeq (sSet 3 (eDat (aCat (eDat (aLc (iRng (aCons (eC (.int 5)) aNil)) [9] (gNm 9) tTrue (eCall (T i15_law_program) (aCons (eVar 2) (aCons (eCall (T i14_law_size) (aCons (eVar 2) aNil)) aNil))))) (eCall (T i16_law_edges) (aCons (eVar 2) aNil))))) (sSeq (sSet 4 (eDat (aCat (eVar 3) (eDat (aLst (aCons (eC (.str "")) (aCons (eC (.str "a")) (aCons (eC (.str "abcdefgh")) (aCons (eC (.str "abcdefghi")) (aCons (eC (.str "aB")) (aCons (eC (.str "a-")) (aCons (eC (.str "z")) (aCons (eC .non) (aCons (eTup aNil) (aCons (eTup (aCons (eC (.str "new")) (aCons (eC (.str "")) aNil))) (aCons (eTup (aCons (eC (.str "copy")) (aCons (eC (.str "a")) aNil))) aNil)))))))))))))))) (sSeq (sSet 4 (eDat (aCat (eVar 4) (eDat (aLst (aCons (eTup (aCons (eC (.str "use")) aNil)) (aCons (eTup (aCons (eC (.str "new")) (aCons (eC (.str "a")) (aCons (eC (.str "b")) aNil)))) (aCons (eTup (aCons (eC (.str "copy")) (aCons (eC (.str "a")) (aCons (eC (.str "b")) (aCons (eC (.str "c")) aNil))))) (aCons (eTup (aCons (eC (.str "new")) (aCons (eC (.str "A")) aNil))) (aCons (eTup (aCons (eC (.str "New")) (aCons (eC (.str "a")) aNil))) aNil)))))))))) (sSeq (sSet 4 (eDat (aCat (eVar 4) (eDat (aLst (aCons (eDat (aLst (aCons (eC (.str "new")) (aCons (eC (.str "a")) aNil)))) (aCons (eTup (aCons (eC .non) (aCons (eC (.str "a")) aNil))) aNil))))))) (sSeq (sSet 4 (eDat (aCat (eVar 4) (eDat (aLc (iRng (aCons (eC (.int 40)) aNil)) [9] (gNm 9) tTrue (eCall (T i9_law_bent) (aCons (eVar 2) (aCons (eCall (T i3_law_of) (aCons (eVar 2) (aCons (eVar 3) aNil))) (aCons (eC (.int 6)) aNil))))))))) (sFor (iAny (eDat (aCat (eVar 4) (eDat (aLc (iRng (aCons (eC (.int 6)) aNil)) [9] (gNm 9) tTrue (eCall (T i8_law_odd) (aCons (eVar 2) aNil))))))) (gNm 5) (sSeq (sSet 6 (eCB gRepr (aCons (eVar 5) aNil))) (sSeq (sPar (aCons (eDat (aLst (aCons (eCall (T i1_is_name) (aCons (eVar 5) aNil)) (aCons (eCall (T i17_is_program) (aCons (eVar 5) aNil)) aNil)))) (aCons (eDat (aLst (aCons (eCall (T i10_law_is_name) (aCons (eVar 5) aNil)) (aCons (eCall (T i18_law_is_program) (aCons (eVar 5) aNil)) aNil)))) aNil)) (gN1 (gNm 7) (gN1 (gNm 8) gN0))) (sIf (tOrr (tB1 (eOp gNe (eCB gRepr (aCons (eVar 7) aNil)) (eCB gRepr (aCons (eVar 8) aNil)))) (tB1 (eOp gNe (eCB gRepr (aCons (eVar 5) aNil)) (eVar 6)))) (sRet (eC (.bl false))) sNil))))))))))) (sRet (eC (.bl true))))
def m20_instructions (T : Nat → Fn) : AS := (sSeq (sIf (tB1 (eOp gNotIn (eOp gIx (eVar 0) (eC (.int 0))) (eTup (aCons (eC (.str "seq")) (aCons (eC (.str "branch")) (aCons (eC (.str "loop")) aNil)))))) (sRet (eTup (aCons (eVar 0) aNil))) sNil) (sSeq (sSet 1 (eNew (aLst aNil))) (sSeq (sFor (iAny (eCall (T i19_parts_of) (aCons (eVar 0) aNil))) (gNm 2) (sExpr (eExt (eVar 1) (eCall (T i20_instructions) (aCons (eVar 2) aNil))))) (sRet (eCB gTuple (aCons (eVar 1) aNil))))))
def m27_names_of (T : Nat → Fn) : AS := (sRet (eCall (T i21_words_of) (aCons (eCall (T i20_instructions) (aCons (eVar 0) aNil)) aNil)))
def m22_is_straight (T : Nat → Fn) : AS := (sRet (eAn (eOp gNotIn (eOp gIx (eVar 0) (eC (.int 0))) (eTup (aCons (eC (.str "branch")) (aCons (eC (.str "loop")) aNil)))) (eCB gAll (aCons (eDat (aLc (iAny (eCall (T i19_parts_of) (aCons (eVar 0) aNil))) [1] (gNm 1) tTrue (eCall (T i22_is_straight) (aCons (eVar 1) aNil)))) aNil))))
def m23_law_listed (T : Nat → Fn) : AS := (sSeq (sIf (tB1 (eOp gEq (eOp gIx (eVar 0) (eC (.int 0))) (eC (.str "loop")))) (sRet (eCall (T i23_law_listed) (aCons (eOp gIx (eVar 0) (eC (.int 1))) aNil))) sNil) (sSeq (sIf (tB1 (eOp gIn (eOp gIx (eVar 0) (eC (.int 0))) (eTup (aCons (eC (.str "seq")) (aCons (eC (.str "branch")) aNil))))) (sSeq (sSet 1 (eDat (aLst aNil))) (sSeq (sFor (iAny (eOp gIx (eVar 0) (eC (.int 1)))) (gNm 2) (sSet 1 (eDat (aCat (eVar 1) (eCall (T i23_law_listed) (aCons (eVar 2) aNil)))))) (sRet (eVar 1)))) sNil) (sRet (eDat (aLst (aCons (eVar 0) aNil))))))
def m28_law_words (T : Nat → Fn) : AS := (sSeq (sSet 1 eDNew) (sSeq (sFor (iAny (eCall (T i23_law_listed) (aCons (eVar 0) aNil))) (gNm 2) (sFor (iAny (eSl (eVar 2) (oSome (eC (.int 1))) oNone)) (gNm 3) (sDPutA (eVar 1) (eVar 3) (eC (.bl true))))) (sRet (eDat (aCB gSortD (aCons (eVar 1) aNil))))))
def m26_law_handed (T : Nat → Fn) : AS := (sSeq (sSet 1 (eCall (T i7_law_names) (aCons (eVar 0) (aCons (eCall (T i3_law_of) (aCons (eVar 0) (aCons (eDat (aLst (aCons (eC (.int 2)) (aCons (eC (.int 3)) (aCons (eC (.int 4)) (aCons (eC (.int 5)) (aCons (eC (.int 6)) (aCons (eC (.int 7)) (aCons (eC (.int 8)) aNil))))))))) aNil))) aNil)))) (sSeq (sPar (aCons (eNew (aSl (eVar 1) (oSome (eC (.int 1))) oNone)) (aCons (eNew (aLst (aCons (eTup (aCons (eC (.str "new")) (aCons (eOp gIx (eVar 1) (eC (.int 0))) aNil))) aNil))) (aCons (eNew (aLst (aCons (eOp gIx (eVar 1) (eC (.int 0))) aNil))) (aCons (eC (.int 4)) aNil)))) (gN1 (gNm 2) (gN1 (gNm 3) (gN1 (gNm 4) (gN1 (gNm 5) gN0))))) (sSeq (sWhile (tB1 (eOp gNe (eVar 2) (eDat (aLst aNil)))) (sSeq (sSet 6 (ePop1 (eVar 2) (eCall (T i2_law_take) (aCons (eVar 0) (aCons (eCB gLen (aCons (eVar 2) aNil)) aNil))))) (sSeq (sExpr (eApp2 (eVar 3) (eTup (aCons (eC (.str "copy")) (aCons (eCall (T i3_law_of) (aCons (eVar 0) (aCons (eVar 4) aNil))) (aCons (eVar 6) aNil)))))) (sSeq (sExpr (eApp2 (eVar 4) (eVar 6))) (sSeq (sIf (tAn (tB1 (eOp gGt (eVar 5) (eC (.int 0)))) (tB1 (eOp gEq (eCall (T i2_law_take) (aCons (eVar 0) (aCons (eC (.int 3)) aNil))) (eC (.int 0))))) (sSeq (sSet 5 (eOp gSub (eVar 5) (eC (.int 1)))) (sExpr (eApp2 (eVar 3) (eTup (aCons (eC (.str "use")) (aCons (eCall (T i3_law_of) (aCons (eVar 0) (aCons (eVar 4) aNil))) aNil)))))) sNil) (sIf (tAn (tB1 (eOp gEq (eCall (T i2_law_take) (aCons (eVar 0) (aCons (eC (.int 2)) aNil))) (eC (.int 0)))) (tB1 (eOp gGt (eCB gLen (aCons (eVar 4) aNil)) (eC (.int 1))))) (sExpr (eApp2 (eVar 3) (eTup (aCons (eC (.str "drop")) (aCons (ePop1 (eVar 4) (eCall (T i2_law_take) (aCons (eVar 0) (aCons (eCB gLen (aCons (eVar 4) aNil)) aNil)))) aNil))))) sNil)))))) (sSeq (sSet 7 (eCall (T i3_law_of) (aCons (eVar 0) (aCons (eDat (aLst (aCons (eC (.int 2)) (aCons (eC (.int 9)) (aCons (eC (.int 99)) aNil))))) aNil)))) (sRet (eTup (aCons (eC (.str "seq")) (aCons (eOp gAdd (eCB gTuple (aCons (eVar 3) aNil)) (eCB gTuple (aCons (eDat (aLc (iAny (eVar 4)) [6] (gNm 6) (tB1 (eOp gGt (eCall (T i2_law_take) (aCons (eVar 0) (aCons (eVar 7) aNil))) (eC (.int 0)))) (eTup (aCons (eC (.str "use")) (aCons (eVar 6) aNil))))) aNil))) aNil))))))))
def m25_law_some_programs (T : Nat → Fn) : AS := (sSeq (sSet 2 (eNew (aLc (iRng (aCons (eVar 1) aNil)) [5] (gNm 5) tTrue (eCall (T i15_law_program) (aCons (eVar 0) (aCons (eCall (T i14_law_size) (aCons (eVar 0) aNil)) aNil)))))) (sSeq (sExpr (eApp2 (eVar 2) (eCall (T i4_law_instruction) (aCons (eVar 0) (aCons (eCall (T i7_law_names) (aCons (eVar 0) (aCons (eC (.int 2)) aNil))) aNil))))) (sSeq (sSet 3 (eTup (aCons (eC (.str "seq")) (aCons (eTup aNil) aNil)))) (sSeq (sSet 4 (eDat (aLst (aCons (eVar 3) (aCons (eTup (aCons (eC (.str "loop")) (aCons (eVar 3) aNil))) (aCons (eTup (aCons (eC (.str "seq")) (aCons (eTup (aCons (eVar 3) (aCons (eVar 3) aNil))) aNil))) (aCons (eTup (aCons (eC (.str "branch")) (aCons (eTup (aCons (eVar 3) (aCons (eTup (aCons (eC (.str "loop")) (aCons (eTup (aCons (eC (.str "drop")) (aCons (eC (.str "a")) aNil))) aNil))) aNil))) aNil))) aNil))))))) (sRet (eDat (aCat (eVar 2) (eDat (aLst (aCons (eCall (T i3_law_of) (aCons (eVar 0) (aCons (eVar 4) aNil))) aNil))))))))))
def m24_law_is_plain (T : Nat → Fn) : AS := (sSeq (sIf (tB1 (eOp gIn (eOp gIx (eVar 0) (eC (.int 0))) (eTup (aCons (eC (.str "loop")) (aCons (eC (.str "branch")) aNil))))) (sRet (eC (.bl false))) sNil) (sRet (eOr (eOp gNe (eOp gIx (eVar 0) (eC (.int 0))) (eC (.str "seq"))) (eCB gAll (aCons (eDat (aLc (iAny (eOp gIx (eVar 0) (eC (.int 1)))) [1] (gNm 1) tTrue (eCall (T i24_law_is_plain) (aCons (eVar 1) aNil)))) aNil)))))
def m419_law (T : Nat → Fn) : AS := (sSeq (sFor (iRng (aCons (eCB gMax (aCons (eC (.int 1)) (aCons (eCB gMin (aCons (eC (.int 3)) (aCons (eCB gLen (aCons (eVar 0) aNil)) aNil))) aNil))) aNil)) (gNm 1) (sSeq (sSet 2 (eCall (T i13_law_hand) (aCons (eVar 0) (aCons (eVar 1) aNil)))) (sFor (iAny (eDat (aCat (eCall (T i25_law_some_programs) (aCons (eVar 2) (aCons (eC (.int 8)) aNil))) (eDat (aLst (aCons (eCall (T i26_law_handed) (aCons (eVar 2) aNil)) (aCons (eTup (aCons (eC (.str "seq")) (aCons (eTup (aCons (eCall (T i26_law_handed) (aCons (eVar 2) aNil)) (aCons (eTup (aCons (eC (.str "seq")) (aCons (eTup aNil) aNil))) aNil))) aNil))) aNil))))))) (gNm 3) (sSeq (sSet 4 (eCB gRepr (aCons (eVar 3) aNil))) (sSeq (sSet 5 (eDat (aLst (aCons (eCall (T i20_instructions) (aCons (eVar 3) aNil)) (aCons (eCall (T i27_names_of) (aCons (eVar 3) aNil)) (aCons (eCall (T i22_is_straight) (aCons (eVar 3) aNil)) aNil)))))) (sSeq (sSet 6 (eDat (aLst (aCons (eCB gTuple (aCons (eCall (T i23_law_listed) (aCons (eVar 3) aNil)) aNil)) (aCons (eCB gTuple (aCons (eCall (T i28_law_words) (aCons (eVar 3) aNil)) aNil)) (aCons (eCall (T i24_law_is_plain) (aCons (eVar 3) aNil)) aNil)))))) (sIf (tOrr (tB1 (eOp gNe (eCB gRepr (aCons (eVar 5) aNil)) (eCB gRepr (aCons (eVar 6) aNil)))) (tB1 (eOp gNe (eCB gRepr (aCons (eVar 3) aNil)) (eVar 4)))) (sRet (eC (.bl false))) sNil))))))) (sRet (eC (.bl true))))
end Lr

local macro_rules | `(tactic| decreasing_trivial) => `(tactic| repeat' (with_reducible (first   | refine Lr.o_seq ?_ | refine Lr.o_set ?_ | refine Lr.o_ret ?_ | refine Lr.o_expr ?_ | refine Lr.o_if ?_ | refine Lr.o_nil ?_ | refine Lr.o_for ?_ | refine Lr.o_sub ?_ | refine Lr.o_par ?_ | refine Lr.o_asg ?_   | refine Lr.w_c ?_ | refine Lr.w_op ?_ | refine Lr.w_nil ?_ | refine Lr.w_cons ?_ | refine Lr.w_call ?_ | refine Lr.w_cb ?_ | refine Lr.w_acb ?_ | refine Lr.w_tup ?_ | refine Lr.w_lst ?_ | refine Lr.w_new ?_ | refine Lr.w_dat ?_   | refine Lr.w_if ?_ | refine Lr.w_b1 ?_ | refine Lr.w_nt ?_ | refine Lr.w_an ?_ | refine Lr.w_orr ?_ | refine Lr.w_tr ?_ | refine Lr.w_add ?_ | refine Lr.w_addB ?_ | refine Lr.w_subB ?_ | refine Lr.w_strB ?_ | refine Lr.w_sub ?_ | refine Lr.w_lt ?_ | refine Lr.w_le ?_ | refine Lr.w_gt ?_ | refine Lr.w_ge ?_ | refine Lr.w_neg ?_   | refine Lr.w_lenT ?_ | refine Lr.w_lenL ?_ | refine Lr.w_lenC ?_ | refine Lr.w_abs ?_ | refine Lr.w_max ?_ | refine Lr.w_min ?_ | refine Lr.w_intI ?_ | refine Lr.w_intB ?_ | refine Lr.w_tupT ?_ | refine Lr.w_tupL ?_ | refine Lr.w_lisT ?_   | refine Lr.w_chain ?_ | refine Lr.w_eAn ?_ | refine Lr.w_eOr ?_ | refine Lr.w_eNt ?_ | refine Lr.w_oN ?_ | refine Lr.w_oS ?_ | refine Lr.w_sl ?_ | refine Lr.w_rev ?_ | refine Lr.w_cat ?_ | refine Lr.w_app ?_ | refine Lr.w_ext ?_ | refine Lr.w_dic0 ?_ | refine Lr.w_dic1 ?_ | refine Lr.w_rng ?_ | refine Lr.w_lcU ?_ | refine Lr.w_dcU ?_ | refine Lr.w_dnew ?_ | refine Lr.w_dkeep ?_ | refine Lr.w_upd ?_ | refine Lr.o_dput ?_ | refine Lr.w_pop0 ?_ | refine Lr.w_pop1 ?_ | refine Lr.o_while ?_ | refine Lr.w_ok ?_   | (apply Lr.w_var; with_unfolding_all exact rfl)   | (refine Exists.intro _ (And.intro rfl ?_)) | fail)))


namespace Lr
open PySem PySem.Spec L2
theorem take_draws (T : Nat → Fn) {n : Nat} {many : Int} (h1 : 1 ≤ many) (h2 : many < 4611686018427387904) : Draws (fnR 5 2 (m2_law_take T)) n [.loc n, .int many] 1 (fun v => ∃ d, v = .int d ∧ 0 ≤ d ∧ d < many) := by
  refine Draws.of rfl fun μ B hb hs => ?_
  have hn := hs.lt
  obtain ⟨g, c, m, e, g0, c0, c1, m0, m1⟩ := hs
  have hm : (0 : Int) < many := by omega
  simp only [startA_s, List.map_cons, List.map_nil, List.length_cons, List.length_nil, Nat.reduceAdd, Nat.reduceSub, List.replicate_succ, List.replicate_zero, List.cons_append, List.nil_append]
  unfold m2_law_take
  decreasing_trivial
  refine w_ixO e rfl ?_
  decreasing_trivial
  by_cases hg : 0 < g
  · rw [if_pos (decide_eq_true hg)]
    decreasing_trivial
    refine w_ixO e rfl ?_
    decreasing_trivial
    refine w_mod hm ?_
    decreasing_trivial
    refine w_ixO e rfl ?_
    decreasing_trivial
    refine w_div hm (by omega) ?_
    decreasing_trivial
    refine ⟨n, _, 0, 0, rfl, rfl, e, rfl, ?_⟩
    decreasing_trivial
    exact ⟨rfl, Ext.set (Ext.refl n μ) _ (.inr rfl), ⟨g / many, c, m, by simp [hn], Int.ediv_nonneg g0 (by omega), c0, c1, m0, by omega⟩, _, rfl, Int.emod_nonneg _ (by omega), Int.emod_lt_of_pos _ hm⟩
  · rw [if_neg (by simpa using hg)]
    decreasing_trivial
    refine w_ixO e rfl ?_
    decreasing_trivial
    refine ⟨n, _, 2, 2, rfl, rfl, e, rfl, ?_⟩
    have e' : (μ.set n (.lst ([AV.int g, .int c, .int m].set 2 (.int (m + 1)))))[n]? = some (.lst [.int g, .int c, .int (m + 1)]) := by simp [hn]
    have x1 : Ext n μ (μ.set n (.lst ([AV.int g, .int c, .int m].set 2 (.int (m + 1))))) := Ext.set (Ext.refl n μ) _ (.inr rfl)
    revert e' x1
    generalize μ.set n (.lst ([AV.int g, .int c, .int m].set 2 (.int (m + 1)))) = σ
    intro e' x1
    decreasing_trivial
    refine ⟨by decide, ?_⟩
    decreasing_trivial
    refine w_ixO e' rfl ?_
    decreasing_trivial
    refine w_mod (by decide) ?_
    obtain ⟨p, hp, hpm⟩ : ∃ p : Int, atI [AV.int 2147483647, .int 2147483629, .int 2147483587, .int 2147483579, .int 2147483563] ((m + 1) % 5) = some (.int p) ∧ 2147483563 ≤ p ∧ p ≤ 2147483647 := by
      have : (m + 1) % 5 = 0 ∨ (m + 1) % 5 = 1 ∨ (m + 1) % 5 = 2 ∨ (m + 1) % 5 = 3 ∨ (m + 1) % 5 = 4 := by omega
      rcases this with h | h | h | h | h <;> rw [h] <;> exact ⟨_, rfl, by decide, by decide⟩
    have hp0 : 0 < p := by omega
    refine w_ixL hp ?_
    decreasing_trivial
    refine w_ixO e' rfl ?_
    decreasing_trivial
    refine w_ixO e' rfl ?_
    refine w_mul (mulOk_l (by decide)) ?_
    decreasing_trivial
    refine w_pow (by decide) (by decide) (by omega) ?_
    decreasing_trivial
    refine w_mod hp0 ?_
    have d0 : 0 ≤ (c + 7919 * (m + 1)) ^ (3 : Int).toNat % p := Int.emod_nonneg _ (by omega)
    have d1 : (c + 7919 * (m + 1)) ^ (3 : Int).toNat % p < p := Int.emod_lt_of_pos _ hp0
    revert d0 d1
    generalize (c + 7919 * (m + 1)) ^ (3 : Int).toNat % p = d
    intro d0 d1
    decreasing_trivial
    refine w_mod (by decide) ?_
    decreasing_trivial
    refine w_ixO e' rfl ?_
    decreasing_trivial
    refine w_mul (mulOk_l (by omega)) ?_
    decreasing_trivial
    refine w_mod hp0 ?_
    decreasing_trivial
    refine w_div (by decide) (by decide) ?_
    decreasing_trivial
    refine w_mod hm ?_
    exact ⟨rfl, x1, ⟨g, c, m + 1, e', g0, c0, c1, by omega, by omega⟩, _, rfl, Int.emod_nonneg _ (by omega), Int.emod_lt_of_pos _ hm⟩
def TakeOk (f : Fn) : Prop := ∀ (n : Nat) (many : Int), 1 ≤ many → many < 4611686018427387904 → Draws f n [.loc n, .int many] 1 (fun v => ∃ d, v = .int d ∧ 0 ≤ d ∧ d < many)
def OfOk (f : Fn) : Prop := ∀ (n : Nat) (xs : List AV), xs ≠ [] → xs.length ≤ 16777216 → pureL xs = true → Draws f n [.loc n, .lst xs] 1 (fun v => v ∈ xs)
def OfOk2 (f : Fn) : Prop := ∀ (n l : Nat) (xs : List AV) (μ : Store) (B : Nat), l ≠ n → xs ≠ [] → xs.length ≤ 16777216 → pureL xs = true → μ[l]? = some (.lst xs) → B + 1 ≤ 1000000000 → Hst μ n B → wp (f [.loc n, .loc l] μ) fun v σ => Stp n μ σ ∧ Hst σ n (B + 1) ∧ pure? v = true ∧ v ∈ xs
theorem pure_mem {v : AV} {xs : List AV} (h : pureL xs = true) (m : v ∈ xs) : pure? v = true := by
  rw [pureL_all] at h
  exact List.all_eq_true.mp h v m
theorem of_ok (T : Nat → Fn) (ht : TakeOk (T i2_law_take)) : OfOk (fnR 2 2 (m3_law_of T)) := fun n xs hne hz hp => by
  refine Draws.of rfl fun μ B hb hs => ?_
  simp only [startA_s, List.map_cons, List.map_nil, List.length_cons, List.length_nil, Nat.reduceAdd, Nat.reduceSub, List.replicate_succ, List.replicate_zero, List.cons_append, List.nil_append]
  unfold m3_law_of
  decreasing_trivial
  have hl : 0 < xs.length := List.length_pos_iff.mpr hne
  refine (ht n xs.length (by omega) (by omega) μ B hb hs).mono fun v σ ⟨s1, h1, pv, d, e, d0, d1⟩ => ?_
  subst e
  obtain ⟨v, e, hm⟩ := atI_get d0 d1
  refine w_ixL e ?_
  exact ⟨pure_mem hp hm, s1.ext, h1, hm⟩
theorem of_ok2 (T : Nat → Fn) (ht : TakeOk (T i2_law_take)) : OfOk2 (fnR 2 2 (m3_law_of T)) := fun n l xs μ B hln hne hz hp e hb hs => by
  refine fn_wp rfl ?_
  simp only [startA_s, List.map_cons, List.map_nil, List.length_cons, List.length_nil, Nat.reduceAdd, Nat.reduceSub, List.replicate_succ, List.replicate_zero, List.cons_append, List.nil_append]
  unfold m3_law_of
  decreasing_trivial
  refine w_lenO e ?_
  decreasing_trivial
  have hl : 0 < xs.length := List.length_pos_iff.mpr hne
  refine (ht n xs.length (by omega) (by omega) μ B hb hs).mono fun v σ ⟨s1, h1, pv, d, e1, d0, d1⟩ => ?_
  subst e1
  obtain ⟨v, e2, hm⟩ := atI_get d0 d1
  refine w_ixO ((s1.2 l hln).trans e) e2 ?_
  obtain ⟨g1, g2, g3⟩ := s1.ext.gc h1 hs.lt
  exact ⟨pure_mem hp hm, g1, g2, g3, pure_mem hp hm, hm⟩
theorem fit_of {c d : Nat} {v : AV} (h1 : sh v = true) (h2 : sz v ≤ c) (h3 : dep v ≤ d) : Fit c d v := ⟨h1, h2, h3⟩
theorem o_seq2 {a b : AS} {ρ : Loc} {μ : Store} {D : Kt} (K : Loc → Store → Prop) (h1 : wo (a ρ μ) { D with nx := K }) (h2 : ∀ ρ1 μ1, K ρ1 μ1 → wo (b ρ1 μ1) D) : wo (sSeq a b ρ μ) D := by
  rw [wo_seq]
  exact h1.mono h2 (fun _ _ h => h) (fun _ _ h => h) (fun _ _ h => h)
theorem ne_nil_t {xs : List AV} {μ : Store} {Q : AV → Store → Prop} (h : Q (.bl (!xs.isEmpty)) μ) : wp (gNe (.tup xs) (.tup []) μ) Q :=
  w_gNe (by cases xs <;> simp [eqB, lsOf, eqv, eqvL]) (by simp [depM, lsOf, dep, depL]) h
theorem isi_no {v : AV} {μ : Store} {n : String} {Q : AV → Store → Prop} {k : String} (e : kindA μ v = some k) (e2 : isiB k n = some false) (h : Q (.bl false) μ) : wp (gIsi [v, .ty n] μ) Q := w_isi e e2 h
def kind0 : AV → Option String
  | .non => some "NoneType"
  | .bl _ => some "bool"
  | .int _ => some "int"
  | .str _ => some "str"
  | .tup _ => some "tuple"
  | .lst _ => some "list"
  | .dct _ => some "dict"
  | _ => none
theorem cut_split {xs : List AV} {i : Nat} {x : AV} (h : xs[i]? = some x) : xs = xs.take i ++ x :: xs.drop (i + 1) := by
  have hi := (List.getElem?_eq_some_iff.mp h).1
  have e := List.drop_eq_getElem_cons hi
  have e2 : xs[i] = x := by
    rw [List.getElem?_eq_getElem hi] at h
    exact Option.some.inj h
  rw [← e2, ← e, List.take_append_drop]
theorem cut_lo {xs : List AV} {i : Nat} (h : i ≤ xs.length) : cutA xs none (some (i : Int)) = xs.take i := by
  unfold cutA
  rw [HT.sIx_none, HT.sIx_nat, Nat.sub_zero, List.drop_zero, Nat.min_eq_left h]
theorem cut_hi {xs : List AV} {i : Nat} (h : i ≤ xs.length) : cutA xs (some (i : Int)) none = xs.drop i := by
  unfold cutA
  rw [HT.sIx_none, HT.sIx_nat, Nat.min_eq_left h, List.take_of_length_le (by rw [List.length_drop]; omega)]
theorem fitL_sub {c d : Nat} {xs : List AV} (h : FitL c d xs) (a b : Nat) : FitL c d ((xs.drop a).take b) := by
  have e1 : FitL c d (xs.drop a) := by
    have z := h
    rw [← List.take_append_drop a xs] at z
    have z1 := z.2.1
    rw [szL_app] at z1
    exact z.right.mono (by omega) (Nat.le_refl _)
  have z := e1
  rw [← List.take_append_drop b (xs.drop a)] at z
  have z1 := z.2.1
  rw [szL_app] at z1
  exact z.left.mono (by omega) (Nat.le_refl _)
theorem kind_eq {μ : Store} {v : AV} (h : pure? v = true) {k : String} (e : kind0 v = some k) : kindA μ v = some k := by
  cases v <;> first | exact e | (simp [pure?] at h; done) | (simp [kind0] at e; done)
theorem kind_sh {v : AV} (h : sh v = true) : ∃ k, kind0 v = some k ∧ k ∈ ["NoneType", "bool", "int", "str", "tuple", "list", "dict"] := by
  cases v <;> first | (simp [sh] at h; done) | exact ⟨_, rfl, by simp⟩
def Pure1 (f : Fn) (as : List AV) (r : AV) : Prop := ∀ μ, wp (f as μ) fun v σ => v = r ∧ σ = μ
theorem Pure1.of {k m : Nat} {b : AS} {as : List AV} {r : AV} (hl : as.length = m) (h : ∀ μ, wo (b (startA k as) μ) { rt := fun v σ => σ = μ ∧ pure? v = true ∧ v = r }) : Pure1 (fnR k m b) as r := fun μ => by
  refine fn_wp hl ((h μ).mono (fun _ _ h => False.elim h) (fun v σ ⟨h1, h2, h3⟩ => ?_) (fun _ _ h => False.elim h) (fun _ _ h => False.elim h))
  subst h1
  exact ⟨h2, fun i o _ e => .inl e, h3, List.take_length⟩
theorem ite_k {b : Bool} {P Q : Prop} (h1 : b = true → P) (h2 : b = false → Q) : if b = true then P else Q := by
  cases b
  · rw [if_neg (by simp)]
    exact h2 rfl
  · rw [if_pos rfl]
    exact h1 rfl
theorem isi_tup {v : AV} {μ : Store} {Q : AV → Store → Prop} (hv : sh v = true) (h1 : ∀ xs, v = .tup xs → Q (.bl true) μ) (h2 : (∀ xs, v ≠ .tup xs) → Q (.bl false) μ) : wp (gIsi [v, .ty "tuple"] μ) Q := by
  obtain ⟨k, ek, hk⟩ := kind_sh hv
  have em := kind_eq (μ := μ) (sh_pure v hv) ek
  cases v <;> first | (simp [sh] at hv; done) | cases ek
  case tup.refl => exact w_isi em (by decide) (h1 _ rfl)
  all_goals exact w_isi em (by decide) (h2 fun _ e => nomatch e)
theorem gNe_i {i j : Int} {μ : Store} {Q : AV → Store → Prop} (h : Q (.bl (!(i == j))) μ) : wp (gNe (.int i) (.int j) μ) Q := w_gNe (by simp [eqB, lsOf, eqv]) (by simp [depM, lsOf, dep]) h
theorem push_get {σ : Store} {xs : List AV} : (σ ++ [AO.lst xs])[σ.length]? = some (.lst xs) := by simp
theorem fit_pair {i j : Int} (hi : i.natAbs < 10 ^ 100) (hj : j.natAbs < 10 ^ 100) : Fit 211 1 (.tup [.int i, .int j]) := (FitL.cons (fit_int hi) (FitL.cons (fit_int hj) .nil)).tup.mono (by omega) (by omega)
theorem eqB_str {x : Str} {μ : Store} : eqB (.str x) (.str x) μ = some true := by simp [eqB, lsOf, eqv]
theorem ne_same {x : Str} {μ : Store} {Q : AV → Store → Prop} (h : Q (.bl false) μ) : wp (gNe (.str x) (.str x) μ) Q := w_gNe eqB_str (by simp [depM, lsOf, dep]) h
theorem repr_bl {b : Bool} {μ : Store} {Q : AV → Store → Prop} (h : Q (.str (PyData.shown (.bool b))) μ) : wp (gRepr [.bl b] μ) Q := w_repr (d := .bool b) rfl (by cases b <;> decide) h
theorem rng_mem {n i : Nat} {v : AV} (h : (rangeL 0 n)[i]? = some v) : v = .int (i : Int) ∧ i < n := by
  unfold rangeL at h
  rw [List.getElem?_map] at h
  obtain ⟨k, hk, e⟩ := Option.map_eq_some_iff.mp h
  have := List.getElem?_eq_some_iff.mp hk
  obtain ⟨h1, h2⟩ := this
  simp at h1 h2
  subst e
  refine ⟨by rw [← h2]; simp, h1⟩
def HandOk (f : Fn) : Prop := ∀ (ns : List Int) (k : Int) (μ : Store), 0 ≤ k → k < 1000 → wp (f [.scr ns, .int k] μ) fun v σ => v = .loc μ.length ∧ σ.length = μ.length + 1 ∧ (∀ i, i < μ.length → σ[i]? = μ[i]?) ∧ Hst σ μ.length 0
theorem hand_ok (T : Nat → Fn) : HandOk (fnR 4 2 (m13_law_hand T)) := fun ns k μ k0 k1 => by
  refine fn_wpN rfl ?_
  simp only [startA_s, List.map_cons, List.map_nil, List.length_cons, List.length_nil, Nat.reduceAdd, Nat.reduceSub, List.replicate_succ, List.replicate_zero, List.cons_append, List.nil_append]
  unfold m13_law_hand
  refine o_seq2 (fun ρ1 σ => σ = μ ∧ ∃ c : Int, ρ1 = [some (.scr ns), some (.int k), some (.int c), none]) ?_ ?_
  · (decreasing_trivial; repeat ((first | (with_reducible (refine w_len (by simp; done) ?_)) | (with_reducible (refine w_pow (by decide) (by decide) (by decide) ?_)) | fail); decreasing_trivial))
    refine ite_k (fun h => ?_) (fun h => ?_)
    · have h := of_decide_eq_true h
      (decreasing_trivial; repeat ((first | (with_reducible (refine w_len (by simp; done) ?_)) | (with_reducible (refine w_pow (by decide) (by decide) (by decide) ?_)) | fail); decreasing_trivial))
      obtain ⟨c, e, _⟩ := atI_get (xs := ns) k0 (by omega)
      refine w_ixC e ?_
      exact ⟨rfl, c, rfl⟩
    · (decreasing_trivial; repeat ((first | (with_reducible (refine w_len (by simp; done) ?_)) | (with_reducible (refine w_pow (by decide) (by decide) (by decide) ?_)) | fail); decreasing_trivial))
      exact ⟨rfl, 0, rfl⟩
  · rintro ρ1 σ ⟨rfl, c, rfl⟩
    (decreasing_trivial; repeat ((first | (with_reducible (refine w_len (by simp; done) ?_)) | (with_reducible (refine w_pow (by decide) (by decide) (by decide) ?_)) | fail); decreasing_trivial))
    refine w_mul (by decide +kernel) ?_
    (decreasing_trivial; repeat ((first | (with_reducible (refine w_len (by simp; done) ?_)) | (with_reducible (refine w_pow (by decide) (by decide) (by decide) ?_)) | fail); decreasing_trivial))
    refine w_mul (by decide +kernel) ?_
    refine w_mod (by decide +kernel) ?_
    (decreasing_trivial; repeat ((first | (with_reducible (refine w_len (by simp; done) ?_)) | (with_reducible (refine w_pow (by decide) (by decide) (by decide) ?_)) | fail); decreasing_trivial))
    obtain ⟨z, hz⟩ : ∃ z : Int, z = (if c < 0 then -c else c) % (10 ^ Int.toNat 60 * 10 ^ Int.toNat 60 * 10 ^ Int.toNat 60) := ⟨_, rfl⟩
    have z0 : 0 ≤ z := by
      rw [hz]
      exact Int.emod_nonneg _ (by decide +kernel)
    rw [← hz]
    have hq : ∀ q : Bool, 0 ≤ (if q = true then (1 : Int) else 0) ∧ (if q = true then (1 : Int) else 0) ≤ 1 := fun q => by cases q <;> simp
    have hb := hq (decide (10 ^ Int.toNat 18 ≤ if c < 0 then -c else c))
    revert hb
    generalize (if decide (10 ^ Int.toNat 18 ≤ if c < 0 then -c else c) = true then (1 : Int) else 0) = y
    intro hb
    refine w_mul (mulOk_r (by omega)) ?_
    (decreasing_trivial; repeat ((first | (with_reducible (refine w_len (by simp; done) ?_)) | (with_reducible (refine w_pow (by decide) (by decide) (by decide) ?_)) | fail); decreasing_trivial))
    refine w_mod (by decide) ?_
    (decreasing_trivial; repeat ((first | (with_reducible (refine w_len (by simp; done) ?_)) | (with_reducible (refine w_pow (by decide) (by decide) (by decide) ?_)) | fail); decreasing_trivial))
    refine w_mul (mulOk_l (by decide)) ?_
    (decreasing_trivial; repeat ((first | (with_reducible (refine w_len (by simp; done) ?_)) | (with_reducible (refine w_pow (by decide) (by decide) (by decide) ?_)) | fail); decreasing_trivial))
    refine w_mul (mulOk_r (by decide)) ?_
    (decreasing_trivial; repeat ((first | (with_reducible (refine w_len (by simp; done) ?_)) | (with_reducible (refine w_pow (by decide) (by decide) (by decide) ?_)) | fail); decreasing_trivial))
    refine w_mod (by decide) ?_
    (decreasing_trivial; repeat ((first | (with_reducible (refine w_len (by simp; done) ?_)) | (with_reducible (refine w_pow (by decide) (by decide) (by decide) ?_)) | fail); decreasing_trivial))
    refine ⟨by simp [bel], rfl, by simp, fun i hi => by rw [List.getElem?_append_left hi], _, _, 0, push_get, Int.mul_nonneg z0 hb.1, Int.emod_nonneg _ (by decide), Int.emod_lt_of_pos _ (by decide), by decide, by decide⟩
theorem w_mulT {xs : List AV} {k : Int} {μ : Store} {Q : AV → Store → Prop} (h0 : xs ≠ []) (h1 : 0 ≤ k) (h2 : k ≤ 1000) (h3 : xs.length ≤ 1000) (h : Q (.tup (List.replicate k.toNat xs).flatten) μ) : wp (gMul (.tup xs) (.int k) μ) Q := by
  unfold gMul
  have e : (!xs.isEmpty && decide (0 ≤ k) && decide (k ≤ 1000) && decide (xs.length ≤ 1000)) = true := by
    cases xs with
    | nil => exact absurd rfl h0
    | cons a b => simp only [List.isEmpty_cons, Bool.not_false, Bool.true_and, decide_eq_true h1, decide_eq_true h2, decide_eq_true h3]
  simp only [if_pos e]
  exact h
theorem gcOk_pre {μ σ : Store} (h : μ <+: σ) : gcOk μ σ ∧ σ.take μ.length = μ := by
  obtain ⟨r, rfl⟩ := h
  refine ⟨fun i o hi e => .inl ?_, by simp⟩
  rw [List.getElem?_append_left hi] at e
  exact e
theorem Pure1.of' {k m : Nat} {b : AS} {as : List AV} {r : AV} (hl : as.length = m) (h : ∀ μ, wo (b (startA k as) μ) { rt := fun v σ => μ <+: σ ∧ pure? v = true ∧ v = r }) : Pure1 (fnR k m b) as r := fun μ => by
  refine fn_wp hl ((h μ).mono (fun _ _ h => False.elim h) (fun v σ ⟨h1, h2, h3⟩ => ?_) (fun _ _ h => False.elim h) (fun _ _ h => False.elim h))
  exact ⟨h2, (gcOk_pre h1).1, h3, (gcOk_pre h1).2⟩
theorem pre_set {μ σ : Store} {l : Nat} {o : AO} (h : μ <+: σ) (hl : μ.length ≤ l) : μ <+: σ.set l o := by
  obtain ⟨r, rfl⟩ := h
  rw [List.set_append_right l o hl]
  exact List.prefix_append _ _
theorem small_fit {i : Int} (h : -100000 < i) (h2 : i < 100000) : i.natAbs < 10 ^ 100 := Nat.lt_trans (show i.natAbs < 100000 by omega) (by decide)
end Lr


namespace Lr
open PySem PySem.Spec L2
inductive Tr where
  | new (x : Str) | use (x : Str) | drop (x : Str) | copy (x y : Str)
  | seq (ps : List Tr) | branch (ps : List Tr) | loop (p : Tr)
mutual
def Tr.v : Tr → AV
  | .new x => .tup [.str "new", .str x]
  | .use x => .tup [.str "use", .str x]
  | .drop x => .tup [.str "drop", .str x]
  | .copy x y => .tup [.str "copy", .str x, .str y]
  | .seq ps => .tup [.str "seq", .tup (Tr.vs ps)]
  | .branch ps => .tup [.str "branch", .tup (Tr.vs ps)]
  | .loop p => .tup [.str "loop", p.v]
def Tr.vs : List Tr → List AV
  | [] => []
  | p :: ps => p.v :: Tr.vs ps
end
theorem Tr.vs_map : ∀ ps : List Tr, Tr.vs ps = ps.map Tr.v
  | [] => rfl
  | p :: ps => by rw [List.map_cons, ← Tr.vs_map ps]; rfl
mutual
def Tr.dep : Tr → Nat
  | .new _ => 1 | .use _ => 1 | .drop _ => 1 | .copy _ _ => 1
  | .seq ps => Tr.deps ps + 1
  | .branch ps => Tr.deps ps + 1
  | .loop p => p.dep + 1
def Tr.deps : List Tr → Nat
  | [] => 0
  | p :: ps => max p.dep (Tr.deps ps)
end
mutual
def Tr.nodes : Tr → Nat
  | .new _ => 1 | .use _ => 1 | .drop _ => 1 | .copy _ _ => 1
  | .seq ps => Tr.nodesL ps + 1
  | .branch ps => Tr.nodesL ps + 1
  | .loop p => p.nodes + 1
def Tr.nodesL : List Tr → Nat
  | [] => 0
  | p :: ps => p.nodes + Tr.nodesL ps
end
mutual

def Tr.ins : Tr → List Tr
  | .new x => [.new x] | .use x => [.use x] | .drop x => [.drop x] | .copy x y => [.copy x y]
  | .seq ps => Tr.insL ps
  | .branch ps => Tr.insL ps
  | .loop p => p.ins
def Tr.insL : List Tr → List Tr
  | [] => []
  | p :: ps => p.ins ++ Tr.insL ps
end
mutual

def Tr.ok (N : List Str) : Tr → Prop
  | .new x => x ∈ N | .use x => x ∈ N | .drop x => x ∈ N | .copy x y => x ∈ N ∧ y ∈ N
  | .seq ps => ps.length ≤ 20 ∧ Tr.oks N ps
  | .branch ps => (1 ≤ ps.length ∧ ps.length ≤ 6) ∧ Tr.oks N ps
  | .loop p => p.ok N
def Tr.oks (N : List Str) : List Tr → Prop
  | [] => True
  | p :: ps => p.ok N ∧ Tr.oks N ps
end
theorem Tr.oks_iff {N : List Str} : ∀ {ps : List Tr}, Tr.oks N ps ↔ ∀ p ∈ ps, p.ok N
  | [] => by simp [Tr.oks]
  | p :: ps => by simp only [Tr.oks, List.mem_cons, forall_eq_or_imp, Tr.oks_iff (ps := ps)]
theorem Tr.deps_iff {d : Nat} : ∀ {ps : List Tr}, Tr.deps ps ≤ d ↔ ∀ p ∈ ps, p.dep ≤ d
  | [] => by simp [Tr.deps]
  | p :: ps => by simp only [Tr.deps, Nat.max_le, List.mem_cons, forall_eq_or_imp, Tr.deps_iff (ps := ps)]
theorem Tr.nodesL_sum : ∀ ps : List Tr, Tr.nodesL ps = (ps.map Tr.nodes).sum
  | [] => rfl
  | p :: ps => by rw [List.map_cons, List.sum_cons, ← Tr.nodesL_sum ps]; rfl
theorem Tr.insL_flat : ∀ ps : List Tr, Tr.insL ps = ps.flatMap Tr.ins
  | [] => rfl
  | p :: ps => by rw [List.flatMap_cons, ← Tr.insL_flat ps]; rfl
theorem Tr.nodes_pos : ∀ t : Tr, 1 ≤ t.nodes := fun t => by cases t <;> simp [Tr.nodes]
theorem Tr.dep_pos : ∀ t : Tr, 1 ≤ t.dep := fun t => by cases t <;> simp [Tr.dep]
theorem Tr.oks_app {N : List Str} {a b : List Tr} : Tr.oks N (a ++ b) ↔ Tr.oks N a ∧ Tr.oks N b := by
  simp only [Tr.oks_iff, List.mem_append, or_imp, forall_and]
theorem Tr.nodesL_app (a b : List Tr) : Tr.nodesL (a ++ b) = Tr.nodesL a + Tr.nodesL b := by
  simp [Tr.nodesL_sum]
theorem Tr.insL_app (a b : List Tr) : Tr.insL (a ++ b) = Tr.insL a ++ Tr.insL b := by
  simp [Tr.insL_flat]
mutual
theorem Tr.ok_mono {N M : List Str} (h : ∀ x ∈ N, x ∈ M) : ∀ t : Tr, t.ok N → t.ok M
  | .new x, k => h x k
  | .use x, k => h x k
  | .drop x, k => h x k
  | .copy x y, k => ⟨h x k.1, h y k.2⟩
  | .seq ps, k => ⟨k.1, Tr.oks_mono h ps k.2⟩
  | .branch ps, k => ⟨k.1, Tr.oks_mono h ps k.2⟩
  | .loop p, k => Tr.ok_mono h p k
theorem Tr.oks_mono {N M : List Str} (h : ∀ x ∈ N, x ∈ M) : ∀ ps : List Tr, Tr.oks N ps → Tr.oks M ps
  | [], _ => trivial
  | p :: ps, k => ⟨Tr.ok_mono h p k.1, Tr.oks_mono h ps k.2⟩
end
mutual
theorem Tr.ins_nodes : ∀ t : Tr, t.ins.length ≤ t.nodes
  | .new x => Nat.le_refl _
  | .use x => Nat.le_refl _
  | .drop x => Nat.le_refl _
  | .copy x y => Nat.le_refl _
  | .seq ps => by have := Tr.insL_nodes ps; simp only [Tr.ins, Tr.nodes]; omega
  | .branch ps => by have := Tr.insL_nodes ps; simp only [Tr.ins, Tr.nodes]; omega
  | .loop p => by have := Tr.ins_nodes p; simp only [Tr.ins, Tr.nodes]; omega
theorem Tr.insL_nodes : ∀ ps : List Tr, (Tr.insL ps).length ≤ Tr.nodesL ps
  | [] => Nat.le_refl _
  | p :: ps => by have := Tr.ins_nodes p; have := Tr.insL_nodes ps; simp only [Tr.insL, Tr.nodesL, List.length_append]; omega
end

def Tr.leaf : Tr → Bool
  | .new _ => true | .use _ => true | .drop _ => true | .copy _ _ => true
  | _ => false
mutual
theorem Tr.ins_leaf : ∀ t : Tr, ∀ i ∈ t.ins, i.leaf = true
  | .new x, i, h => by rw [List.mem_singleton.mp h]; rfl
  | .use x, i, h => by rw [List.mem_singleton.mp h]; rfl
  | .drop x, i, h => by rw [List.mem_singleton.mp h]; rfl
  | .copy x y, i, h => by rw [List.mem_singleton.mp h]; rfl
  | .seq ps, i, h => Tr.insL_leaf ps i h
  | .branch ps, i, h => Tr.insL_leaf ps i h
  | .loop p, i, h => Tr.ins_leaf p i h
theorem Tr.insL_leaf : ∀ ps : List Tr, ∀ i ∈ Tr.insL ps, i.leaf = true
  | [], i, h => nomatch h
  | p :: ps, i, h => by
    rcases List.mem_append.mp h with h | h
    · exact Tr.ins_leaf p i h
    · exact Tr.insL_leaf ps i h
end
mutual
theorem Tr.ins_ok {N : List Str} : ∀ t : Tr, t.ok N → ∀ i ∈ t.ins, i.ok N
  | .new x, k, i, h => by rw [List.mem_singleton.mp h]; exact k
  | .use x, k, i, h => by rw [List.mem_singleton.mp h]; exact k
  | .drop x, k, i, h => by rw [List.mem_singleton.mp h]; exact k
  | .copy x y, k, i, h => by rw [List.mem_singleton.mp h]; exact k
  | .seq ps, k, i, h => Tr.insL_ok ps k.2 i h
  | .branch ps, k, i, h => Tr.insL_ok ps k.2 i h
  | .loop p, k, i, h => Tr.ins_ok p k i h
theorem Tr.insL_ok {N : List Str} : ∀ ps : List Tr, Tr.oks N ps → ∀ i ∈ Tr.insL ps, i.ok N
  | [], _, i, h => nomatch h
  | p :: ps, k, i, h => by
    rcases List.mem_append.mp h with h | h
    · exact Tr.ins_ok p k.1 i h
    · exact Tr.insL_ok ps k.2 i h
end

def NM : List Str := ["a", "b", "copytx", "drop", "fq", "hijkmuvy", "longname", "new", "seq", "zz"]
theorem nm_sz : ∀ x ∈ NM, sh (.str x) = true ∧ sz (.str x) ≤ 12 := by
  have h : (NM.all fun x => sh (.str x) && decide (sz (.str x) ≤ 12)) = true := by decide +kernel
  intro x hx
  have := List.all_eq_true.mp h x hx
  simpa only [Bool.and_eq_true, decide_eq_true_eq] using this
theorem kw_sz : sz (.str "new") ≤ 12 ∧ sz (.str "use") ≤ 12 ∧ sz (.str "drop") ≤ 12 ∧ sz (.str "copy") ≤ 12 ∧ sz (.str "seq") ≤ 12 ∧ sz (.str "branch") ≤ 12 ∧ sz (.str "loop") ≤ 12 := by decide +kernel
theorem sh_str (x : Str) : sh (.str x) = true := rfl
mutual
theorem Tr.fit : ∀ t : Tr, t.ok NM → sh t.v = true ∧ sz t.v + 2 ≤ 62 * t.nodes ∧ Lr.dep t.v ≤ 2 * t.dep
  | .new x, k => by
    obtain ⟨h1, h2⟩ := nm_sz x k
    obtain ⟨k1, k2, k3, k4, k5, k6, k7⟩ := kw_sz
    refine ⟨rfl, ?_, by simp [Tr.v, Tr.dep, Lr.dep, depL]⟩
    simp only [Tr.v, sz, szL, Tr.nodes] at *
    omega
  | .use x, k => by
    obtain ⟨h1, h2⟩ := nm_sz x k
    obtain ⟨k1, k2, k3, k4, k5, k6, k7⟩ := kw_sz
    refine ⟨rfl, ?_, by simp [Tr.v, Tr.dep, Lr.dep, depL]⟩
    simp only [Tr.v, sz, szL, Tr.nodes] at *
    omega
  | .drop x, k => by
    obtain ⟨h1, h2⟩ := nm_sz x k
    obtain ⟨k1, k2, k3, k4, k5, k6, k7⟩ := kw_sz
    refine ⟨rfl, ?_, by simp [Tr.v, Tr.dep, Lr.dep, depL]⟩
    simp only [Tr.v, sz, szL, Tr.nodes] at *
    omega
  | .copy x y, k => by
    obtain ⟨h1, h2⟩ := nm_sz x k.1
    obtain ⟨h3, h4⟩ := nm_sz y k.2
    obtain ⟨k1, k2, k3, k4, k5, k6, k7⟩ := kw_sz
    refine ⟨rfl, ?_, by simp [Tr.v, Tr.dep, Lr.dep, depL]⟩
    simp only [Tr.v, sz, szL, Tr.nodes] at *
    omega
  | .seq ps, k => by
    obtain ⟨h1, h2, h3⟩ := Tr.fitL ps k.2
    obtain ⟨k1, k2, k3, k4, k5, k6, k7⟩ := kw_sz
    refine ⟨by simp [Tr.v, sh, shL, h1], ?_, ?_⟩
    · simp only [Tr.v, sz, szL, Tr.nodes] at *
      omega
    · simp only [Tr.v, Tr.dep, Lr.dep, depL] at *
      omega
  | .branch ps, k => by
    obtain ⟨h1, h2, h3⟩ := Tr.fitL ps k.2
    obtain ⟨k1, k2, k3, k4, k5, k6, k7⟩ := kw_sz
    refine ⟨by simp [Tr.v, sh, shL, h1], ?_, ?_⟩
    · simp only [Tr.v, sz, szL, Tr.nodes] at *
      omega
    · simp only [Tr.v, Tr.dep, Lr.dep, depL] at *
      omega
  | .loop p, k => by
    obtain ⟨h1, h2, h3⟩ := Tr.fit p k
    obtain ⟨k1, k2, k3, k4, k5, k6, k7⟩ := kw_sz
    refine ⟨by simp [Tr.v, sh, shL, h1], ?_, ?_⟩
    · simp only [Tr.v, sz, szL, Tr.nodes] at *
      omega
    · simp only [Tr.v, Tr.dep, Lr.dep, depL] at *
      omega
theorem Tr.fitL : ∀ ps : List Tr, Tr.oks NM ps → shL (Tr.vs ps) = true ∧ szL (Tr.vs ps) ≤ 62 * Tr.nodesL ps ∧ depL (Tr.vs ps) ≤ 2 * Tr.deps ps
  | [], _ => ⟨rfl, Nat.le_refl _, Nat.le_refl _⟩
  | p :: ps, k => by
    obtain ⟨h1, h2, h3⟩ := Tr.fit p k.1
    obtain ⟨g1, g2, g3⟩ := Tr.fitL ps k.2
    refine ⟨by simp [Tr.vs, shL, h1, g1], ?_, ?_⟩
    · simp only [Tr.vs, szL, Tr.nodesL]
      omega
    · simp only [Tr.vs, depL, Tr.deps]
      omega
end
theorem Tr.fits {t : Tr} {n d : Nat} (k : t.ok NM) (hn : t.nodes ≤ n) (hd : t.dep ≤ d) : Fit (62 * n) (2 * d) t.v := by
  obtain ⟨h1, h2, h3⟩ := Tr.fit t k
  exact ⟨h1, by omega, by omega⟩
mutual
theorem Tr.vpure : ∀ t : Tr, pure? t.v = true
  | .new x => rfl
  | .use x => rfl
  | .drop x => rfl
  | .copy x y => rfl
  | .seq ps => by simp [Tr.v, pure?, pureL, Tr.vpures ps]
  | .branch ps => by simp [Tr.v, pure?, pureL, Tr.vpures ps]
  | .loop p => by simp [Tr.v, pure?, pureL, Tr.vpure p]
theorem Tr.vpures : ∀ ps : List Tr, pureL (Tr.vs ps) = true
  | [] => rfl
  | p :: ps => by simp [Tr.vs, pureL, Tr.vpure p, Tr.vpures ps]
end
theorem Tr.vs_len (ps : List Tr) : (Tr.vs ps).length = ps.length := by rw [Tr.vs_map, List.length_map]
theorem Tr.vs_app (a b : List Tr) : Tr.vs (a ++ b) = Tr.vs a ++ Tr.vs b := by simp [Tr.vs_map]

section
variable {μ : Store} {Q : AV → Store → Prop}
theorem gEq_s {x y : Str} {b : Bool} (e : (x == y) = b) (h : Q (.bl b) μ) : wp (gEq (.str x) (.str y) μ) Q := w_gEq (r := b) (by simp [eqB, lsOf, eqv, e]) (by simp [depM, lsOf, dep]) h
theorem gNe_s {x y : Str} {b : Bool} (e : (x == y) = b) (h : Q (.bl (!b)) μ) : wp (gNe (.str x) (.str y) μ) Q := w_gNe (r := b) (by simp [eqB, lsOf, eqv, e]) (by simp [depM, lsOf, dep]) h
theorem gEq_i {i j : Int} (h : Q (.bl (i == j)) μ) : wp (gEq (.int i) (.int j) μ) Q := w_gEq (by simp [eqB, lsOf, eqv]) (by simp [depM, lsOf, dep]) h
theorem in_2 {x a b : Str} : inB (.str x) (.tup [.str a, .str b]) μ = some (a == x || b == x) := by
  simp [inB, seqOf, isD, isDL, dep, anyEq, eqv]
theorem in_3 {x a b c : Str} : inB (.str x) (.tup [.str a, .str b, .str c]) μ = some (a == x || (b == x || c == x)) := by
  simp [inB, seqOf, isD, isDL, dep, anyEq, eqv]
theorem gIn_2 {x a b : Str} {r : Bool} (e : (a == x || b == x) = r) (h : Q (.bl r) μ) : wp (gIn (.str x) (.tup [.str a, .str b]) μ) Q := by
  unfold gIn
  rw [in_2, e]
  exact h
theorem gNotIn_2 {x a b : Str} {r : Bool} (e : (a == x || b == x) = r) (h : Q (.bl (!r)) μ) : wp (gNotIn (.str x) (.tup [.str a, .str b]) μ) Q := by
  unfold gNotIn
  rw [in_2, e]
  exact h
theorem gNotIn_3 {x a b c : Str} {r : Bool} (e : (a == x || (b == x || c == x)) = r) (h : Q (.bl (!r)) μ) : wp (gNotIn (.str x) (.tup [.str a, .str b, .str c]) μ) Q := by
  unfold gNotIn
  rw [in_3, e]
  exact h
end
end Lr


namespace Lr
open PySem PySem.Spec L2
def Has (μ : Store) (l : Nat) (xs : List Str) : Prop := μ[l]? = some (.lst (xs.map AV.str))
theorem Has.stp {μ σ : Store} {n l : Nat} {xs : List Str} (h : Has μ l xs) (hl : l ≠ n) (s : Stp n μ σ) : Has σ l xs := (s.2 l hl).trans h
theorem Has.ext {μ σ : Store} {n l : Nat} {xs : List Str} (h : Has μ l xs) (hl : l ≠ n) (s : Ext n μ σ) : Has σ l xs := (s.2 l (List.getElem?_eq_some_iff.mp h).1 hl).trans h
theorem pure_strs : ∀ xs : List Str, pureL (xs.map AV.str) = true
  | [] => rfl
  | x :: xs => by rw [List.map_cons]; simp [pureL, pure?, pure_strs xs]

def DrawsN (f : Fn) (n l : Nat) (xs : List Str) (as : List AV) (j : Nat) (P : AV → Prop) : Prop := ∀ μ B, l ≠ n → Has μ l xs → B + j ≤ 1000000000 → Hst μ n B → wp (f as μ) fun v σ => Stp n μ σ ∧ Hst σ n (B + j) ∧ pure? v = true ∧ P v
theorem DrawsN.of {n l m k j : Nat} {xs : List Str} {b : AS} {as : List AV} {P : AV → Prop} (hl : as.length = m) (h : ∀ μ B, l ≠ n → Has μ l xs → B + j ≤ 1000000000 → Hst μ n B →
    wo (b (startA k as) μ) { rt := fun v σ => pure? v = true ∧ Ext n μ σ ∧ Hst σ n (B + j) ∧ P v }) : DrawsN (fnR k m b) n l xs as j P := fun μ B hln hx hb hs => by
  refine fn_wp hl ((h μ B hln hx hb hs).mono (fun _ _ h => False.elim h) (fun v σ ⟨h1, h2, h3, h4⟩ => ?_) (fun _ _ h => False.elim h) (fun _ _ h => False.elim h))
  obtain ⟨g1, g2, g3⟩ := h2.gc h3 hs.lt
  exact ⟨h1, g1, g2, g3, h1, h4⟩

theorem of_name {f : Fn} (h : OfOk2 f) {n l : Nat} {xs : List Str} (hne : xs ≠ []) (hz : xs.length ≤ 10) : DrawsN f n l xs [.loc n, .loc l] 1 (fun v => ∃ x, v = .str x ∧ x ∈ xs) := fun μ B hln hx hb hs => by
  refine (h n l (xs.map AV.str) μ B hln (by simpa using hne) (by rw [List.length_map]; omega) (pure_strs xs) hx hb hs).mono fun v σ ⟨s1, h1, pv, hm⟩ => ⟨s1, h1, pv, ?_⟩
  obtain ⟨x, hx, e⟩ := List.mem_map.mp hm
  exact ⟨x, e.symm, hx⟩
def NamesOk (f : Fn) : Prop := ∀ (n : Nat) (count : Int) μ B, 1 ≤ count → count ≤ 10 → B + 10 ≤ 1000000000 → Hst μ n B → wp (f [.loc n, .int count] μ) fun v σ => v = .loc μ.length ∧ Ext n μ σ ∧ Hst σ n (B + 10) ∧ ∃ xs : List Str, Has σ μ.length xs ∧ (xs.length : Int) = count ∧ xs.Sublist NM
theorem ixN_nn {n : Nat} {d : Int} (h0 : 0 ≤ d) (h1 : d < n) : ixN n d = some d.toNat := by
  unfold ixN
  simp [h0, h1]
theorem names_ok (T : Nat → Fn) (ht : TakeOk (T i2_law_take)) : NamesOk (fnR 3 2 (m7_law_names T)) := fun n count μ B c1 c2 hb hs => by
  have hn := hs.lt
  refine fn_wpN rfl ?_
  simp only [startA_s, List.map_cons, List.map_nil, List.length_cons, List.length_nil, Nat.reduceAdd, Nat.reduceSub, List.replicate_succ, List.replicate_zero, List.cons_append, List.nil_append]
  unfold m7_law_names
  (decreasing_trivial; repeat ((first | (with_reducible (refine w_len (by simp; done) ?_)) | (with_reducible (refine w_pow (by decide) (by decide) (by decide) ?_)) | fail); decreasing_trivial))
  refine wo_while (fun m ρ τ => ∃ xs : List Str, ρ = [some (.loc n), some (.int count), some (.loc μ.length)] ∧ Ext n μ τ ∧ Hst τ n (B + (10 - xs.length)) ∧ Has τ μ.length xs ∧ m = xs.length ∧ count ≤ xs.length ∧ xs.length ≤ 10 ∧ xs.Sublist NM) ?_ FUEL 10 _ _ (by unfold FUEL; omega) ⟨NM, rfl, (Ext.refl n μ).push _, (hs.push _).le (by omega), push_get, rfl, c2, Nat.le_refl _, List.Sublist.refl _⟩
  rintro m ρ τ ⟨xs, rfl, xt, h1, hx, rfl, hc, hz, hsub⟩
  (decreasing_trivial; repeat ((first | (with_reducible (refine w_len (by simp; done) ?_)) | (with_reducible (refine w_pow (by decide) (by decide) (by decide) ?_)) | fail); decreasing_trivial))
  refine w_lenO hx ?_
  (decreasing_trivial; repeat ((first | (with_reducible (refine w_len (by simp; done) ?_)) | (with_reducible (refine w_pow (by decide) (by decide) (by decide) ?_)) | fail); decreasing_trivial))
  refine ite_k (fun h => ?_) (fun h => ?_)
  · have h := of_decide_eq_true h
    rw [List.length_map] at h
    (decreasing_trivial; repeat ((first | (with_reducible (refine w_len (by simp; done) ?_)) | (with_reducible (refine w_pow (by decide) (by decide) (by decide) ?_)) | fail); decreasing_trivial))
    refine ⟨by simp [isLs, lsOf, show τ[μ.length]? = _ from hx], ?_⟩
    (decreasing_trivial; repeat ((first | (with_reducible (refine w_len (by simp; done) ?_)) | (with_reducible (refine w_pow (by decide) (by decide) (by decide) ?_)) | fail); decreasing_trivial))
    refine w_lenO hx ?_
    (decreasing_trivial; repeat ((first | (with_reducible (refine w_len (by simp; done) ?_)) | (with_reducible (refine w_pow (by decide) (by decide) (by decide) ?_)) | fail); decreasing_trivial))
    rw [List.length_map]
    refine (ht n xs.length (by omega) (by omega) τ _ (by omega) h1).mono fun v σ ⟨s1, h2, pv, d, e, d0, d1⟩ => ?_
    subst e
    have hx2 := hx.stp (by omega) s1
    have hd : d.toNat < xs.length := by omega
    refine ⟨μ.length, _, d, d.toNat, .str (xs[d.toNat]), rfl, rfl, hx2, by rw [List.length_map]; exact ixN_nn d0 d1, by rw [List.length_map]; omega, by rw [List.getElem?_map, List.getElem?_eq_getElem hd]; rfl, ?_⟩
    have hl2 : (xs.eraseIdx d.toNat).length = xs.length - 1 := by rw [List.length_eraseIdx]; simp [hd]
    refine ⟨(xs.eraseIdx d.toNat).length, by omega, xs.eraseIdx d.toNat, rfl, (xt.step s1).set _ (.inl (Nat.le_refl _)), (h2.set _ (by omega)).le (by omega), ?_, rfl, by omega, by omega, (List.eraseIdx_sublist xs d.toNat).trans hsub⟩
    unfold Has
    rw [List.getElem?_set_self (List.getElem?_eq_some_iff.mp hx2).1, List.eraseIdx_eq_take_drop_succ, List.eraseIdx_eq_take_drop_succ, List.map_append, List.map_take, List.map_drop]
  · have h := of_decide_eq_false h
    rw [List.length_map] at h
    (decreasing_trivial; repeat ((first | (with_reducible (refine w_len (by simp; done) ?_)) | (with_reducible (refine w_pow (by decide) (by decide) (by decide) ?_)) | fail); decreasing_trivial))
    exact ⟨by simp [bel], rfl, xt, h1.le (by omega), xs, hx, by omega, hsub⟩
def InsOk (f : Fn) : Prop := ∀ (n l : Nat) (xs : List Str), xs ≠ [] → xs.length ≤ 10 → DrawsN f n l xs [.loc n, .loc l] 4 (fun v => ∃ t : Tr, v = t.v ∧ t.leaf = true ∧ t.ok xs)
theorem instr_ok (T : Nat → Fn) (ht : TakeOk (T i2_law_take)) (ho : OfOk2 (T i3_law_of)) : InsOk (fnR 4 2 (m4_law_instruction T)) := fun n l xs hne hz => by
  refine DrawsN.of rfl fun μ B hln hx hb hs => ?_
  simp only [startA_s, List.map_cons, List.map_nil, List.length_cons, List.length_nil, Nat.reduceAdd, Nat.reduceSub, List.replicate_succ, List.replicate_zero, List.cons_append, List.nil_append]
  unfold m4_law_instruction
  (decreasing_trivial; repeat ((first | (with_reducible (refine w_len (by simp; done) ?_)) | (with_reducible (refine w_pow (by decide) (by decide) (by decide) ?_)) | fail); decreasing_trivial))
  refine (ht n 10 (by decide) (by decide) μ B (by omega) hs).mono fun v σ ⟨s1, h1, _, d, e, d0, d1⟩ => ?_
  subst e
  (decreasing_trivial; repeat ((first | (with_reducible (refine w_len (by simp; done) ?_)) | (with_reducible (refine w_pow (by decide) (by decide) (by decide) ?_)) | fail); decreasing_trivial))
  refine (of_name ho hne hz σ _ hln (hx.stp hln s1) (by omega) h1).mono fun v σ2 ⟨s2, h2, _, x, e, hx1⟩ => ?_
  subst e
  have t2 := s1.ext.step s2
  (decreasing_trivial; repeat ((first | (with_reducible (refine w_len (by simp; done) ?_)) | (with_reducible (refine w_pow (by decide) (by decide) (by decide) ?_)) | fail); decreasing_trivial))
  refine ite_k (fun h => ?_) (fun h => ?_)
  · (decreasing_trivial; repeat ((first | (with_reducible (refine w_len (by simp; done) ?_)) | (with_reducible (refine w_pow (by decide) (by decide) (by decide) ?_)) | fail); decreasing_trivial))
    exact ⟨rfl, t2, h2.le (by omega), .new x, rfl, rfl, hx1⟩
  · (decreasing_trivial; repeat ((first | (with_reducible (refine w_len (by simp; done) ?_)) | (with_reducible (refine w_pow (by decide) (by decide) (by decide) ?_)) | fail); decreasing_trivial))
    refine ite_k (fun h => ?_) (fun h => ?_)
    · (decreasing_trivial; repeat ((first | (with_reducible (refine w_len (by simp; done) ?_)) | (with_reducible (refine w_pow (by decide) (by decide) (by decide) ?_)) | fail); decreasing_trivial))
      refine (of_name ho hne hz σ2 _ hln ((hx.stp hln s1).stp hln s2) (by omega) h2).mono fun v σ3 ⟨s3, h3, _, y, e, hy1⟩ => ?_
      subst e
      (decreasing_trivial; repeat ((first | (with_reducible (refine w_len (by simp; done) ?_)) | (with_reducible (refine w_pow (by decide) (by decide) (by decide) ?_)) | fail); decreasing_trivial))
      exact ⟨rfl, t2.step s3, h3.le (by omega), .copy y x, rfl, rfl, hy1, hx1⟩
    · (decreasing_trivial; repeat ((first | (with_reducible (refine w_len (by simp; done) ?_)) | (with_reducible (refine w_pow (by decide) (by decide) (by decide) ?_)) | fail); decreasing_trivial))
      refine ite_k (fun h => ?_) (fun h => ?_)
      · (decreasing_trivial; repeat ((first | (with_reducible (refine w_len (by simp; done) ?_)) | (with_reducible (refine w_pow (by decide) (by decide) (by decide) ?_)) | fail); decreasing_trivial))
        exact ⟨rfl, t2, h2.le (by omega), .use x, rfl, rfl, hx1⟩
      · (decreasing_trivial; repeat ((first | (with_reducible (refine w_len (by simp; done) ?_)) | (with_reducible (refine w_pow (by decide) (by decide) (by decide) ?_)) | fail); decreasing_trivial))
        exact ⟨rfl, t2, h2.le (by omega), .drop x, rfl, rfl, hx1⟩
theorem leaf_dep {t : Tr} (h : t.leaf = true) : t.dep = 1 := by cases t <;> first | rfl | cases h
theorem leaf_ins {t : Tr} (h : t.leaf = true) : t.ins = [t] := by cases t <;> first | rfl | cases h
theorem leaf_nodes {t : Tr} (h : t.leaf = true) : t.nodes = 1 := by cases t <;> first | rfl | cases h
def TreeOk (f : Fn) (d : Nat) : Prop := ∀ (n l : Nat) (xs : List Str) (s : Int), xs ≠ [] → xs.length ≤ 10 → 1 ≤ s → s ≤ 100 → DrawsN f n l xs [.loc n, .loc l, .int s, .int d] (4 * (s.toNat * (d + 1))) (fun v => ∃ t : Tr, v = t.v ∧ t.ok xs ∧ t.dep ≤ d ∧ t.ins.length ≤ s.toNat)
theorem tree_step {s : Int} {m : Int} (h0 : 2 ≤ s) (h1 : 2 ≤ m) (h2 : m ≤ s) : 1 ≤ s / m ∧ s / m ≤ s ∧ m.toNat * (s / m).toNat ≤ s.toNat := by
  have a1 : 1 ≤ s / m := (Int.le_ediv_iff_mul_le (by omega)).mpr (by omega)
  have a2 : m * (s / m) ≤ s := Int.mul_ediv_self_le (by omega)
  have a3 : s / m ≤ s := Int.ediv_le_self _ (by omega)
  refine ⟨a1, a3, ?_⟩
  have : ((m.toNat * (s / m).toNat : Nat) : Int) ≤ s := by
    rw [Int.natCast_mul, Int.toNat_of_nonneg (by omega), Int.toNat_of_nonneg (by omega)]
    exact a2
  omega
theorem tree_ok (T : Nat → Fn) (ht : TakeOk (T i2_law_take)) (ho : OfOk (T i3_law_of)) (hi : InsOk (T i4_law_instruction)) (d : Nat) (ih : 1 ≤ d → TreeOk (T i5_law_tree) d) : TreeOk (fnR 9 4 (m5_law_tree T)) (d + 1) := fun n l xs s hne hz s1 s2 => by
  refine DrawsN.of rfl fun μ B hln hx hb hs => ?_
  have big0 : 1 * 2 ≤ s.toNat * (d + 1 + 1) := Nat.mul_le_mul (by omega) (by omega)
  have big : 8 ≤ 4 * (s.toNat * (d + 1 + 1)) := by omega
  have big2 : 4 * (s.toNat * (d + 1)) + 4 ≤ 4 * (s.toNat * (d + 1 + 1)) := by
    rw [Nat.mul_succ s.toNat (d + 1)]
    omega
  simp only [startA_s, List.map_cons, List.map_nil, List.length_cons, List.length_nil, Nat.reduceAdd, Nat.reduceSub, List.replicate_succ, List.replicate_zero, List.cons_append, List.nil_append]
  unfold m5_law_tree
  refine o_seq2 (fun ρ1 σ => Stp n μ σ ∧ Hst σ n (B + 1) ∧ ∃ w : Int, 0 ≤ w ∧ ρ1 = [some (.loc n), some (.loc l), some (.int s), some (.int ((d + 1 : Nat) : Int)), some (.int w), none, none, none, none]) ?_ ?_
  · (decreasing_trivial; repeat ((first | (with_reducible (refine w_len (by simp; done) ?_)) | (with_reducible (refine w_pow (by decide) (by decide) (by decide) ?_)) | fail); decreasing_trivial))
    refine (ht n 8 (by decide) (by decide) μ B (by omega) hs).mono fun v σ ⟨s1, h1, _, w, e, d0, d1⟩ => ?_
    subst e
    exact ⟨s1, h1, w, d0, rfl⟩
  · rintro ρ1 σ ⟨t1, h1, w, w0, rfl⟩
    have hx1 := hx.stp hln t1
    refine o_seq2 (fun ρ1 τ => τ = σ ∧ 2 ≤ s ∧ 2 ≤ d + 1 ∧ ρ1 = [some (.loc n), some (.loc l), some (.int s), some (.int ((d + 1 : Nat) : Int)), some (.int w), none, none, none, none]) ?_ ?_
    · have inst : ∀ D : Kt, (∀ v σ, (pure? v = true ∧ Ext n μ σ ∧ Hst σ n (B + 4 * (s.toNat * (d + 1 + 1))) ∧ ∃ t : Tr, v = t.v ∧ t.ok xs ∧ t.dep ≤ d + 1 ∧ t.ins.length ≤ s.toNat) → D.rt v σ) →
          wo (sRet (eCall (T i4_law_instruction) (aCons (eVar 0) (aCons (eVar 1) aNil))) [some (.loc n), some (.loc l), some (.int s), some (.int ((d + 1 : Nat) : Int)), some (.int w), none, none, none, none] σ) D := fun D hD => by
        (decreasing_trivial; repeat ((first | (with_reducible (refine w_len (by simp; done) ?_)) | (with_reducible (refine w_pow (by decide) (by decide) (by decide) ?_)) | fail); decreasing_trivial))
        refine (hi n l xs hne hz σ _ hln hx1 (by omega) h1).mono fun v σ2 ⟨s2, h2, pv, t, e, hf, hk⟩ => ?_
        exact hD _ _ ⟨pv, t1.ext.step s2, h2.le (by omega), t, e, hk, by rw [leaf_dep hf]; omega, by rw [leaf_ins hf]; simp; omega⟩
      (decreasing_trivial; repeat ((first | (with_reducible (refine w_len (by simp; done) ?_)) | (with_reducible (refine w_pow (by decide) (by decide) (by decide) ?_)) | fail); decreasing_trivial))
      refine ite_k (fun h => ?_) (fun h => ?_)
      · exact inst _ fun v σ h => h
      · have h2 := of_decide_eq_false h
        (decreasing_trivial; repeat ((first | (with_reducible (refine w_len (by simp; done) ?_)) | (with_reducible (refine w_pow (by decide) (by decide) (by decide) ?_)) | fail); decreasing_trivial))
        refine ite_k (fun h => ?_) (fun h => ?_)
        · exact inst _ fun v σ h => h
        · have h3 := of_decide_eq_false h
          (decreasing_trivial; repeat ((first | (with_reducible (refine w_len (by simp; done) ?_)) | (with_reducible (refine w_pow (by decide) (by decide) (by decide) ?_)) | fail); decreasing_trivial))
          refine gEq_i ?_
          (decreasing_trivial; repeat ((first | (with_reducible (refine w_len (by simp; done) ?_)) | (with_reducible (refine w_pow (by decide) (by decide) (by decide) ?_)) | fail); decreasing_trivial))
          refine ite_k (fun h => ?_) (fun h => ?_)
          · exact inst _ fun v σ h => h
          · (decreasing_trivial; repeat ((first | (with_reducible (refine w_len (by simp; done) ?_)) | (with_reducible (refine w_pow (by decide) (by decide) (by decide) ?_)) | fail); decreasing_trivial))
            exact ⟨rfl, by omega, by omega, rfl⟩
    · rintro ρ2 τ ⟨rfl, hs2, hd2, rfl⟩
      have ih := ih (by omega)
      have ed : ((d + 1 : Nat) : Int) - 1 = (d : Int) := by omega
      (decreasing_trivial; repeat ((first | (with_reducible (refine w_len (by simp; done) ?_)) | (with_reducible (refine w_pow (by decide) (by decide) (by decide) ?_)) | fail); decreasing_trivial))
      refine gEq_i ?_
      (decreasing_trivial; repeat ((first | (with_reducible (refine w_len (by simp; done) ?_)) | (with_reducible (refine w_pow (by decide) (by decide) (by decide) ?_)) | fail); decreasing_trivial))
      refine ite_k (fun h => ?_) (fun h => ?_)
      · (decreasing_trivial; repeat ((first | (with_reducible (refine w_len (by simp; done) ?_)) | (with_reducible (refine w_pow (by decide) (by decide) (by decide) ?_)) | fail); decreasing_trivial))
        rw [ed]
        refine (ih n l xs s hne hz s1 s2 τ _ hln hx1 (by omega) h1).mono fun v σ2 ⟨s2, h2, pv, t, e, hk, hd, hi2⟩ => ?_
        subst e
        (decreasing_trivial; repeat ((first | (with_reducible (refine w_len (by simp; done) ?_)) | (with_reducible (refine w_pow (by decide) (by decide) (by decide) ?_)) | fail); decreasing_trivial))
        exact ⟨by simp [pure?, pureL, pv], t1.ext.step s2, h2.le (by omega), .loop t, rfl, hk, by simp only [Tr.dep]; omega, hi2⟩
      · refine o_seq2 (fun ρ1 σ2 => Stp n τ σ2 ∧ Hst σ2 n (B + 2) ∧ ∃ m : Int, 2 ≤ m ∧ m ≤ s ∧ m ≤ 18 ∧ (w < 4 → m ≤ 5) ∧ ρ1 = [some (.loc n), some (.loc l), some (.int s), some (.int ((d + 1 : Nat) : Int)), some (.int w), some (.int m), none, none, none]) ?_ ?_
        · (decreasing_trivial; repeat ((first | (with_reducible (refine w_len (by simp; done) ?_)) | (with_reducible (refine w_pow (by decide) (by decide) (by decide) ?_)) | fail); decreasing_trivial))
          refine ite_k (fun h => ?_) (fun h => ?_)
          · have h := of_decide_eq_true h
            (decreasing_trivial; repeat ((first | (with_reducible (refine w_len (by simp; done) ?_)) | (with_reducible (refine w_pow (by decide) (by decide) (by decide) ?_)) | fail); decreasing_trivial))
            refine (ho n _ (by simp) (by simp) rfl τ _ (by omega) h1).mono fun v σ2 ⟨s2', h2, pv, hv⟩ => ?_
            obtain ⟨r, e, r1, r2⟩ : ∃ r : Int, v = .int r ∧ 2 ≤ r ∧ r ≤ 18 := by
              simp only [List.mem_cons, List.not_mem_nil, or_false] at hv
              rcases hv with h | h | h | h | h | h | h <;> exact ⟨_, h, by decide, by decide⟩
            subst e
            (decreasing_trivial; repeat ((first | (with_reducible (refine w_len (by simp; done) ?_)) | (with_reducible (refine w_pow (by decide) (by decide) (by decide) ?_)) | fail); decreasing_trivial))
            have q1 : 2 ≤ (if r < s then r else s) ∧ (if r < s then r else s) ≤ s ∧ (if r < s then r else s) ≤ r := by split <;> omega
            exact ⟨s2', h2, _, q1.1, q1.2.1, by omega, fun _ => by omega, rfl⟩
          · have h := of_decide_eq_false h
            (decreasing_trivial; repeat ((first | (with_reducible (refine w_len (by simp; done) ?_)) | (with_reducible (refine w_pow (by decide) (by decide) (by decide) ?_)) | fail); decreasing_trivial))
            refine (ho n _ (by simp) (by simp) rfl τ _ (by omega) h1).mono fun v σ2 ⟨s2', h2, pv, hv⟩ => ?_
            obtain ⟨r, e, r1, r2⟩ : ∃ r : Int, v = .int r ∧ 2 ≤ r ∧ r ≤ 5 := by
              simp only [List.mem_cons, List.not_mem_nil, or_false] at hv
              rcases hv with h | h | h | h | h | h | h <;> exact ⟨_, h, by decide, by decide⟩
            subst e
            (decreasing_trivial; repeat ((first | (with_reducible (refine w_len (by simp; done) ?_)) | (with_reducible (refine w_pow (by decide) (by decide) (by decide) ?_)) | fail); decreasing_trivial))
            have q1 : 2 ≤ (if r < s then r else s) ∧ (if r < s then r else s) ≤ s ∧ (if r < s then r else s) ≤ r := by split <;> omega
            exact ⟨s2', h2, _, q1.1, q1.2.1, by omega, fun _ => by omega, rfl⟩
        · rintro ρ3 σ2 ⟨t2, h2, m, m1, m2, m3, m4, rfl⟩
          have hx2 := hx1.stp hln t2
          obtain ⟨q1, q2, q3⟩ := tree_step hs2 m1 m2
          have q4 : m.toNat * (4 * ((s / m).toNat * (d + 1))) ≤ 4 * (s.toNat * (d + 1)) := by
            rw [Nat.mul_left_comm, ← Nat.mul_assoc m.toNat]
            exact Nat.mul_le_mul_left 4 (Nat.mul_le_mul_right _ q3)
          refine o_seq2 (fun ρ1 σ3 => Stp n σ2 σ3 ∧ Hst σ3 n (B + 2 + 4 * (s.toNat * (d + 1))) ∧ ∃ ts : List Tr, (ts.length : Int) = m ∧ Tr.oks xs ts ∧ Tr.deps ts ≤ d ∧ (Tr.insL ts).length ≤ s.toNat ∧ ρ1 = [some (.loc n), some (.loc l), some (.int s), some (.int ((d + 1 : Nat) : Int)), some (.int w), some (.int m), some (.tup (Tr.vs ts)), none, none]) ?_ ?_
          · (decreasing_trivial; repeat ((first | (with_reducible (refine w_len (by simp; done) ?_)) | (with_reducible (refine w_pow (by decide) (by decide) (by decide) ?_)) | fail); decreasing_trivial))
            refine ⟨by omega, by omega, ?_⟩
            have hrl : (rangeL 0 m.toNat).length = m.toNat := by simp [rangeL]
            refine wp_lc (fun i acc σ3 => Stp n σ2 σ3 ∧ Hst σ3 n (B + 2 + i * (4 * ((s / m).toNat * (d + 1)))) ∧ ∃ ts : List Tr, acc = Tr.vs ts ∧ ts.length = i ∧ Tr.oks xs ts ∧ Tr.deps ts ≤ d ∧ (Tr.insL ts).length ≤ i * (s / m).toNat) (by rw [hrl]; omega) ?_ ?_ ?_ FUEL 0 _ _ (by rw [hrl]; unfold FUEL; omega) (by omega) ⟨Stp.refl n σ2, by simpa using h2, [], rfl, rfl, trivial, Nat.zero_le _, Nat.zero_le _⟩
            · rintro i acc σ3 ⟨_, _, ts, rfl, hl, _⟩
              rw [Tr.vs_len, hl]
            · rintro acc σ3 ⟨t3, h3, ts, rfl, hl, hk, hd, hi2⟩
              rw [hrl] at hl h3 hi2
              (decreasing_trivial; repeat ((first | (with_reducible (refine w_len (by simp; done) ?_)) | (with_reducible (refine w_pow (by decide) (by decide) (by decide) ?_)) | fail); decreasing_trivial))
              exact ⟨t3, h3.le (by omega), ts, by omega, hk, hd, Nat.le_trans hi2 q3, rfl⟩
            · rintro i v acc σ3 hv ⟨t3, h3, ts, rfl, hl, hk, hd, hi2⟩
              obtain ⟨rfl, hi3⟩ := rng_mem hv
              refine ⟨_, rfl, ?_⟩
              have q5 : i * (4 * ((s / m).toNat * (d + 1))) + 4 * ((s / m).toNat * (d + 1)) ≤ 4 * (s.toNat * (d + 1)) := by
                rw [← Nat.succ_mul]
                exact Nat.le_trans (Nat.mul_le_mul_right _ (by omega)) q4
              (decreasing_trivial; repeat ((first | (with_reducible (refine w_len (by simp; done) ?_)) | (with_reducible (refine w_pow (by decide) (by decide) (by decide) ?_)) | fail); decreasing_trivial))
              refine w_div (by omega) (by omega) ?_
              (decreasing_trivial; repeat ((first | (with_reducible (refine w_len (by simp; done) ?_)) | (with_reducible (refine w_pow (by decide) (by decide) (by decide) ?_)) | fail); decreasing_trivial))
              rw [ed]
              refine (ih n l xs (s / m) hne hz q1 (by omega) σ3 _ hln (hx2.stp hln t3) (by omega) h3).mono fun v σ4 ⟨t4, h4, pv, t, e, hk2, hd2, hi4⟩ => ?_
              subst e
              refine ⟨t3.trans t4, h4.le (by have : (i + 1) * (4 * ((s / m).toNat * (d + 1))) = i * (4 * ((s / m).toNat * (d + 1))) + 4 * ((s / m).toNat * (d + 1)) := Nat.succ_mul i _; omega), ts ++ [t], by simp [Tr.vs_map], by simp [hl], ?_, ?_, ?_⟩
              · rw [Tr.oks_app]
                exact ⟨hk, hk2, trivial⟩
              · rw [Tr.deps_iff]
                intro p hp
                rcases List.mem_append.mp hp with hp | hp
                · exact Tr.deps_iff.mp hd p hp
                · rw [List.mem_singleton.mp hp]
                  exact hd2
              · rw [Tr.insL_app, List.length_append, Nat.succ_mul]
                simp only [Tr.insL, List.append_nil]
                omega
          · rintro ρ4 σ3 ⟨t3, h3, ts, hl, hk, hd, hi2, rfl⟩
            have pvs := Tr.vpures ts
            have xt : Ext n μ σ3 := ((t1.ext.step t2).step t3)
            (decreasing_trivial; repeat ((first | (with_reducible (refine w_len (by simp; done) ?_)) | (with_reducible (refine w_pow (by decide) (by decide) (by decide) ?_)) | fail); decreasing_trivial))
            refine ite_k (fun h => ?_) (fun h => ?_)
            · have h := of_decide_eq_true h
              (decreasing_trivial; repeat ((first | (with_reducible (refine w_len (by simp; done) ?_)) | (with_reducible (refine w_pow (by decide) (by decide) (by decide) ?_)) | fail); decreasing_trivial))
              refine (ht n 3 (by decide) (by decide) σ3 _ (by omega) h3).mono fun v σ4 ⟨s4, h4, _, z, e, z0, z1⟩ => ?_
              subst e
              (decreasing_trivial; repeat ((first | (with_reducible (refine w_len (by simp; done) ?_)) | (with_reducible (refine w_pow (by decide) (by decide) (by decide) ?_)) | fail); decreasing_trivial))
              refine gEq_i ?_
              (decreasing_trivial; repeat ((first | (with_reducible (refine w_len (by simp; done) ?_)) | (with_reducible (refine w_pow (by decide) (by decide) (by decide) ?_)) | fail); decreasing_trivial))
              cases hb2 : (z == 0)
              · refine w_mulT (by simp) (by decide) (by decide) (by simp) ?_
                (decreasing_trivial; repeat ((first | (with_reducible (refine w_len (by simp; done) ?_)) | (with_reducible (refine w_pow (by decide) (by decide) (by decide) ?_)) | fail); decreasing_trivial))
                refine w_addT (by simp [Tr.vs_len]; omega) ?_
                have e1 : Tr.vs ts ++ (List.replicate (Int.toNat (if false = true then 1 else 0)) [AV.tup [.str "seq", .tup []]]).flatten = Tr.vs ts := by simp
                rw [e1]
                (decreasing_trivial; repeat ((first | (with_reducible (refine w_len (by simp; done) ?_)) | (with_reducible (refine w_pow (by decide) (by decide) (by decide) ?_)) | fail); decreasing_trivial))
                exact ⟨by simp [pure?, pureL, pvs], xt.step s4, h4.le (by omega), .branch ts, rfl, ⟨⟨by omega, by have := m4 h; omega⟩, hk⟩, by simp only [Tr.dep]; omega, hi2⟩
              · refine w_mulT (by simp) (by decide) (by decide) (by simp) ?_
                (decreasing_trivial; repeat ((first | (with_reducible (refine w_len (by simp; done) ?_)) | (with_reducible (refine w_pow (by decide) (by decide) (by decide) ?_)) | fail); decreasing_trivial))
                refine w_addT (by simp [Tr.vs_len]; omega) ?_
                have e1 : Tr.vs ts ++ (List.replicate (Int.toNat (if true = true then 1 else 0)) [AV.tup [.str "seq", .tup []]]).flatten = Tr.vs (ts ++ [.seq []]) := by simp [Tr.vs_map, Tr.v, Tr.vs]
                rw [e1]
                (decreasing_trivial; repeat ((first | (with_reducible (refine w_len (by simp; done) ?_)) | (with_reducible (refine w_pow (by decide) (by decide) (by decide) ?_)) | fail); decreasing_trivial))
                refine ⟨by simp [pure?, pureL, Tr.vpures], xt.step s4, h4.le (by omega), .branch (ts ++ [.seq []]), rfl, ⟨⟨by simp, by have := m4 h; simp; omega⟩, ?_⟩, ?_, ?_⟩
                · rw [Tr.oks_app]
                  exact ⟨hk, ⟨Nat.zero_le _, trivial⟩, trivial⟩
                · simp only [Tr.dep]
                  have : Tr.deps (ts ++ [.seq []]) ≤ d := by
                    rw [Tr.deps_iff]
                    intro p hp
                    rcases List.mem_append.mp hp with hp | hp
                    · exact Tr.deps_iff.mp hd p hp
                    · rw [List.mem_singleton.mp hp]
                      simp [Tr.dep, Tr.deps]
                      omega
                  omega
                · simp only [Tr.ins, Tr.insL_app]
                  simpa [Tr.insL, Tr.ins] using hi2
            · (decreasing_trivial; repeat ((first | (with_reducible (refine w_len (by simp; done) ?_)) | (with_reducible (refine w_pow (by decide) (by decide) (by decide) ?_)) | fail); decreasing_trivial))
              exact ⟨by simp [pure?, pureL, pvs], xt, h3.le (by omega), .seq ts, rfl, ⟨by omega, hk⟩, by simp only [Tr.dep]; omega, hi2⟩
end Lr

namespace Lr
open PySem PySem.Spec L2
def NodesOk (f : Fn) (d : Nat) : Prop := ∀ (N : List Str) (t : Tr), t.ok N → t.dep ≤ d → Pure1 f [t.v] (.int (t.nodes : Nat))
theorem sum_nat (ns : List Nat) : (ns.map fun n : Nat => (n : Int)).sum = (ns.sum : Nat) := by
  induction ns with
  | nil => rfl
  | cons a b ih => rw [List.map_cons, List.sum_cons, List.sum_cons, ih, Int.natCast_add]
theorem ints_nat : ∀ ns : List Int, intsOf (ns.map AV.int) = some ns
  | [] => rfl
  | n :: ns => by simp only [List.map_cons, intsOf, ints_nat ns, Option.map_some]

theorem parts_lc {f : Fn} {ps : List Tr} {r : Tr → AV} {ρ : Loc} {μ : Store} {Q : List AV → Store → Prop} {g : AG} {te : AE} (hl : ps.length ≤ 100) (hf : ∀ p ∈ ps, ∀ σ, ∃ ρ1, g p.v ρ = some ρ1 ∧ wp (te ρ1 σ) fun v τ => v = r p ∧ τ = σ)
    (h : Q (ps.map r) μ) : wp (lcF g tTrue te (.dat (Tr.vs ps)) FUEL 0 ρ [] μ) Q := by
  have hlen := Tr.vs_len ps
  refine wp_lc (fun i acc σ => σ = μ ∧ acc = (ps.take i).map r ∧ i ≤ ps.length) (by omega) ?_ ?_ ?_ FUEL 0 _ _ (by unfold FUEL; omega) (by omega) ⟨rfl, by simp, by omega⟩
  · rintro i acc σ ⟨_, rfl, hi⟩
    rw [List.length_map, List.length_take, Nat.min_eq_left hi]
  · rintro acc σ ⟨rfl, rfl, _⟩
    rw [hlen, List.take_length]
    exact h
  · rintro i v acc σ hv ⟨rfl, rfl, hi⟩
    rw [Tr.vs_map, List.getElem?_map] at hv
    obtain ⟨p, hp, rfl⟩ := Option.map_eq_some_iff.mp hv
    obtain ⟨ρ1, eg, hw⟩ := hf p (List.mem_of_getElem? hp) σ
    refine ⟨ρ1, eg, hw.mono fun v τ ⟨e1, e2⟩ => ?_⟩
    subst e1 e2
    refine ⟨rfl, ?_, (List.getElem?_eq_some_iff.mp hp).1⟩
    rw [List.take_add_one, hp, List.map_append]
    rfl
theorem atI_0 {γ : Type} {x : γ} {r : List γ} : atI (x :: r) 0 = some x := by simp [atI, ixN]
theorem nodes_ok (T : Nat → Fn) (d : Nat) (ih : NodesOk (T i6_law_nodes) d) : NodesOk (fnR 2 1 (m6_law_nodes T)) (d + 1) := fun N t k hd => Pure1.of rfl fun μ => by
  have leaf : ∀ a r, (a == ("loop" : Str)) = false → (("seq" : Str) == a || ("branch" : Str) == a) = false → wo (m6_law_nodes T [some (.tup (.str a :: r)), none] μ) { rt := fun v σ => σ = μ ∧ pure? v = true ∧ v = .int 1 } := fun a r h1 h2 => by
    unfold m6_law_nodes
    (decreasing_trivial; repeat ((first | (with_reducible (refine w_len (by simp; done) ?_)) | (with_reducible (refine w_pow (by decide) (by decide) (by decide) ?_)) | fail); decreasing_trivial))
    refine w_ixT atI_0 ?_
    (decreasing_trivial; repeat ((first | (with_reducible (refine w_len (by simp; done) ?_)) | (with_reducible (refine w_pow (by decide) (by decide) (by decide) ?_)) | fail); decreasing_trivial))
    refine gEq_s h1 ?_
    (decreasing_trivial; repeat ((first | (with_reducible (refine w_len (by simp; done) ?_)) | (with_reducible (refine w_pow (by decide) (by decide) (by decide) ?_)) | fail); decreasing_trivial))
    rw [if_neg (by simp)]
    (decreasing_trivial; repeat ((first | (with_reducible (refine w_len (by simp; done) ?_)) | (with_reducible (refine w_pow (by decide) (by decide) (by decide) ?_)) | fail); decreasing_trivial))
    refine w_ixT atI_0 ?_
    (decreasing_trivial; repeat ((first | (with_reducible (refine w_len (by simp; done) ?_)) | (with_reducible (refine w_pow (by decide) (by decide) (by decide) ?_)) | fail); decreasing_trivial))
    refine gIn_2 h2 ?_
    (decreasing_trivial; repeat ((first | (with_reducible (refine w_len (by simp; done) ?_)) | (with_reducible (refine w_pow (by decide) (by decide) (by decide) ?_)) | fail); decreasing_trivial))
    rw [if_neg (by simp)]
    (decreasing_trivial; repeat ((first | (with_reducible (refine w_len (by simp; done) ?_)) | (with_reducible (refine w_pow (by decide) (by decide) (by decide) ?_)) | fail); decreasing_trivial))
    exact ⟨rfl, rfl, rfl⟩
  have many : ∀ a (ps : List Tr), (a == ("loop" : Str)) = false → (("seq" : Str) == a || ("branch" : Str) == a) = true → ps.length ≤ 20 → Tr.oks N ps → Tr.deps ps ≤ d → wo (m6_law_nodes T [some (.tup [.str a, .tup (Tr.vs ps)]), none] μ) { rt := fun v σ => σ = μ ∧ pure? v = true ∧ v = .int ((Tr.nodesL ps + 1 : Nat) : Int) } := fun a ps h1 h2 hl hk hdp => by
    unfold m6_law_nodes
    (decreasing_trivial; repeat ((first | (with_reducible (refine w_len (by simp; done) ?_)) | (with_reducible (refine w_pow (by decide) (by decide) (by decide) ?_)) | fail); decreasing_trivial))
    refine w_ixT rfl ?_
    (decreasing_trivial; repeat ((first | (with_reducible (refine w_len (by simp; done) ?_)) | (with_reducible (refine w_pow (by decide) (by decide) (by decide) ?_)) | fail); decreasing_trivial))
    refine gEq_s h1 ?_
    (decreasing_trivial; repeat ((first | (with_reducible (refine w_len (by simp; done) ?_)) | (with_reducible (refine w_pow (by decide) (by decide) (by decide) ?_)) | fail); decreasing_trivial))
    rw [if_neg (by simp)]
    (decreasing_trivial; repeat ((first | (with_reducible (refine w_len (by simp; done) ?_)) | (with_reducible (refine w_pow (by decide) (by decide) (by decide) ?_)) | fail); decreasing_trivial))
    refine w_ixT rfl ?_
    (decreasing_trivial; repeat ((first | (with_reducible (refine w_len (by simp; done) ?_)) | (with_reducible (refine w_pow (by decide) (by decide) (by decide) ?_)) | fail); decreasing_trivial))
    refine gIn_2 h2 ?_
    (decreasing_trivial; repeat ((first | (with_reducible (refine w_len (by simp; done) ?_)) | (with_reducible (refine w_pow (by decide) (by decide) (by decide) ?_)) | fail); decreasing_trivial))
    rw [if_pos rfl]
    (decreasing_trivial; repeat ((first | (with_reducible (refine w_len (by simp; done) ?_)) | (with_reducible (refine w_pow (by decide) (by decide) (by decide) ?_)) | fail); decreasing_trivial))
    refine w_anyT ?_
    refine w_op ?_
    (decreasing_trivial; repeat ((first | (with_reducible (refine w_len (by simp; done) ?_)) | (with_reducible (refine w_pow (by decide) (by decide) (by decide) ?_)) | fail); decreasing_trivial))
    refine w_ixT rfl ?_
    refine ⟨_, rfl, ?_⟩
    refine parts_lc (f := T i6_law_nodes) (r := fun p => .int (p.nodes : Nat)) (by omega) (fun p hp σ => ⟨_, rfl, ?_⟩) ?_
    · (decreasing_trivial; repeat ((first | (with_reducible (refine w_len (by simp; done) ?_)) | (with_reducible (refine w_pow (by decide) (by decide) (by decide) ?_)) | fail); decreasing_trivial))
      exact ih N p (Tr.oks_iff.mp hk p hp) (Tr.deps_iff.mp hdp p hp) σ
    · (decreasing_trivial; repeat ((first | (with_reducible (refine w_len (by simp; done) ?_)) | (with_reducible (refine w_pow (by decide) (by decide) (by decide) ?_)) | fail); decreasing_trivial))
      refine w_sum (xs := ps.map fun p => .int (p.nodes : Nat)) (ns := ps.map fun p => ((p.nodes : Nat) : Int)) rfl ?_ ?_
      · have := ints_nat (ps.map fun p => ((p.nodes : Nat) : Int))
        rw [List.map_map] at this
        exact this
      · (decreasing_trivial; repeat ((first | (with_reducible (refine w_len (by simp; done) ?_)) | (with_reducible (refine w_pow (by decide) (by decide) (by decide) ?_)) | fail); decreasing_trivial))
        refine ⟨rfl, rfl, ?_⟩
        have := sum_nat (ps.map Tr.nodes)
        rw [List.map_map] at this
        rw [Tr.nodesL_sum, show (ps.map fun p => ((p.nodes : Nat) : Int)).sum = _ from this]
        congr 1
        omega
  cases t with
  | new x => exact leaf _ _ (by decide) (by decide)
  | use x => exact leaf _ _ (by decide) (by decide)
  | drop x => exact leaf _ _ (by decide) (by decide)
  | copy x y => exact leaf _ _ (by decide) (by decide)
  | seq ps => exact many _ ps (by decide) (by decide) k.1 k.2 (by simp only [Tr.dep] at hd; omega)
  | branch ps => exact many _ ps (by decide) (by decide) (by have := k.1.2; omega) k.2 (by simp only [Tr.dep] at hd; omega)
  | loop p =>
    simp only [startA_s, List.map_cons, List.map_nil, List.length_cons, List.length_nil, Nat.reduceAdd, Nat.reduceSub, List.replicate_succ, List.replicate_zero, List.cons_append, List.nil_append]
    unfold m6_law_nodes
    simp only [Tr.v]
    (decreasing_trivial; repeat ((first | (with_reducible (refine w_len (by simp; done) ?_)) | (with_reducible (refine w_pow (by decide) (by decide) (by decide) ?_)) | fail); decreasing_trivial))
    refine w_ixT rfl ?_
    (decreasing_trivial; repeat ((first | (with_reducible (refine w_len (by simp; done) ?_)) | (with_reducible (refine w_pow (by decide) (by decide) (by decide) ?_)) | fail); decreasing_trivial))
    refine gEq_s (b := true) (by decide) ?_
    (decreasing_trivial; repeat ((first | (with_reducible (refine w_len (by simp; done) ?_)) | (with_reducible (refine w_pow (by decide) (by decide) (by decide) ?_)) | fail); decreasing_trivial))
    rw [if_pos rfl]
    (decreasing_trivial; repeat ((first | (with_reducible (refine w_len (by simp; done) ?_)) | (with_reducible (refine w_pow (by decide) (by decide) (by decide) ?_)) | fail); decreasing_trivial))
    refine w_ixT rfl ?_
    (decreasing_trivial; repeat ((first | (with_reducible (refine w_len (by simp; done) ?_)) | (with_reducible (refine w_pow (by decide) (by decide) (by decide) ?_)) | fail); decreasing_trivial))
    refine (ih N p k (by simp only [Tr.dep] at hd; omega) μ).mono fun v σ ⟨e1, e2⟩ => ?_
    subst e1 e2
    (decreasing_trivial; repeat ((first | (with_reducible (refine w_len (by simp; done) ?_)) | (with_reducible (refine w_pow (by decide) (by decide) (by decide) ?_)) | fail); decreasing_trivial))
    exact ⟨rfl, rfl, by simp only [Tr.nodes]; congr 1; omega⟩
theorem size_ok (T : Nat → Fn) (ho : OfOk (T i3_law_of)) (n : Nat) : Draws (fnR 1 1 (m14_law_size T)) n [.loc n] 1 (fun v => ∃ i : Int, v = .int i ∧ 4 ≤ i ∧ i ≤ 40) := by
  refine Draws.of rfl fun μ B hb hs => ?_
  simp only [startA_s, List.map_cons, List.map_nil, List.length_cons, List.length_nil, Nat.reduceAdd, Nat.reduceSub, List.replicate_succ, List.replicate_zero, List.cons_append, List.nil_append]
  unfold m14_law_size
  (decreasing_trivial; repeat ((first | (with_reducible (refine w_len (by simp; done) ?_)) | (with_reducible (refine w_pow (by decide) (by decide) (by decide) ?_)) | fail); decreasing_trivial))
  refine (ho n _ (by simp) (by simp) rfl μ _ (by omega) hs).mono fun v σ ⟨s1, h1, pv, hv⟩ => ?_
  refine ⟨pv, s1.ext, h1, ?_⟩
  simp only [List.mem_cons, List.not_mem_nil, or_false] at hv
  rcases hv with h | h | h | h | h | h | h | h | h | h <;> exact ⟨_, h, by decide, by decide⟩

def ProgA (v : AV) : Prop := ∃ (t : Tr) (xs : List Str), v = t.v ∧ xs.Sublist NM ∧ xs.length ≤ 8 ∧ t.ok xs ∧ t.dep ≤ 7 ∧ t.nodes ≤ 60 ∧ t.ins.length ≤ 40
def ProgOk (f : Fn) : Prop := ∀ (n : Nat) (most : Int), 4 ≤ most → most ≤ 40 → Draws f n [.loc n, .int most] 3000 ProgA
theorem program_ok (T : Nat → Fn) (ht : TakeOk (T i2_law_take)) (ho : OfOk (T i3_law_of)) (ho2 : OfOk2 (T i3_law_of)) (hn : NamesOk (T i7_law_names)) (htr : ∀ d, 1 ≤ d → d ≤ 6 → TreeOk (T i5_law_tree) d) (hno : NodesOk (T i6_law_nodes) 7) : ProgOk (fnR 8 2 (m15_law_program T)) := fun n most m1 m2 => by
  refine Draws.of rfl fun μ B hb hs => ?_
  have hlt := hs.lt
  simp only [startA_s, List.map_cons, List.map_nil, List.length_cons, List.length_nil, Nat.reduceAdd, Nat.reduceSub, List.replicate_succ, List.replicate_zero, List.cons_append, List.nil_append]
  unfold m15_law_program
  refine o_seq2 (fun ρ1 σ => Ext n μ σ ∧ Hst σ n (B + 11) ∧ ∃ (l : Nat) (xs : List Str), l ≠ n ∧ Has σ l xs ∧ xs ≠ [] ∧ xs.length ≤ 8 ∧ xs.Sublist NM ∧ ρ1 = [some (.loc n), some (.int most), some (.loc l), none, none, none, none, none]) ?_ ?_
  · (decreasing_trivial; repeat ((first | (with_reducible (refine w_len (by simp; done) ?_)) | (with_reducible (refine w_pow (by decide) (by decide) (by decide) ?_)) | fail); decreasing_trivial))
    refine (ho n _ (by simp) (by simp) rfl μ _ (by omega) hs).mono fun v σ ⟨s1, h1, pv, hv⟩ => ?_
    obtain ⟨r, e, r1, r2⟩ : ∃ r : Int, v = .int r ∧ 1 ≤ r ∧ r ≤ 8 := by
      simp only [List.mem_cons, List.not_mem_nil, or_false] at hv
      rcases hv with h | h | h | h | h | h | h | h | h | h <;> exact ⟨_, h, by decide, by decide⟩
    subst e
    (decreasing_trivial; repeat ((first | (with_reducible (refine w_len (by simp; done) ?_)) | (with_reducible (refine w_pow (by decide) (by decide) (by decide) ?_)) | fail); decreasing_trivial))
    refine (hn n r σ _ r1 (by omega) (by omega) h1).mono fun v σ2 ⟨e, x2, h2, xs, hx, hl, hsub⟩ => ?_
    subst e
    have el : σ.length = μ.length := s1.1
    refine ⟨⟨by have := x2.1; omega, fun i h1 h2 => (x2.2 i (by omega) h2).trans (s1.2 i h2)⟩, h2.le (by omega), σ.length, xs, by omega, hx, fun z => by rw [z] at hl; simp at hl; omega, by omega, hsub, rfl⟩
  · rintro ρ1 σ ⟨x1, h1, l, xs, hln, hx, hne, hz, hsub, rfl⟩
    have nm : ∀ τ C, Has τ l xs → C + 1 ≤ 1000000000 → Hst τ n C → wp (T i3_law_of [.loc n, .loc l] τ) fun v τ2 => Stp n τ τ2 ∧ Hst τ2 n (C + 1) ∧ pure? v = true ∧ ∃ x, v = .str x ∧ x ∈ xs := fun τ C hx hC hh => of_name ho2 hne (by omega) τ C hln hx hC hh
    refine o_seq2 (fun ρ1 τ => Stp n σ τ ∧ Hst τ n (B + 1200) ∧ ∃ t : Tr, t.ok xs ∧ t.dep ≤ 6 ∧ t.ins.length ≤ 36 ∧ ρ1 = [some (.loc n), some (.int most), some (.loc l), some t.v, none, none, none, none]) ?_ ?_
    · (decreasing_trivial; repeat ((first | (with_reducible (refine w_len (by simp; done) ?_)) | (with_reducible (refine w_pow (by decide) (by decide) (by decide) ?_)) | fail); decreasing_trivial))
      refine (ho n _ (by simp) (by simp) rfl σ _ (by omega) h1).mono fun v τ ⟨s2, h2, pv, hv⟩ => ?_
      obtain ⟨r, e, r1, r2⟩ : ∃ r : Nat, v = .int (r : Nat) ∧ 1 ≤ r ∧ r ≤ 6 := by
        simp only [List.mem_cons, List.not_mem_nil, or_false] at hv
        rcases hv with h | h | h | h
        · exact ⟨3, h, by decide, by decide⟩
        · exact ⟨5, h, by decide, by decide⟩
        · exact ⟨5, h, by decide, by decide⟩
        · exact ⟨6, h, by decide, by decide⟩
      subst e
      (decreasing_trivial; repeat ((first | (with_reducible (refine w_len (by simp; done) ?_)) | (with_reducible (refine w_pow (by decide) (by decide) (by decide) ?_)) | fail); decreasing_trivial))
      have q1 : 1 ≤ (if most - 4 > 1 then most - 4 else 1) ∧ (if most - 4 > 1 then most - 4 else 1) ≤ 36 := by split <;> omega
      have q2 : 4 * ((if most - 4 > 1 then most - 4 else 1).toNat * (r + 1)) ≤ 4 * (36 * 7) := Nat.mul_le_mul_left 4 (Nat.mul_le_mul (by omega) (by omega))
      refine (htr r r1 r2 n l xs _ hne (by omega) q1.1 (by omega) τ _ hln (hx.stp hln s2) (by omega) h2).mono fun v τ2 ⟨s3, h3, pv, t, e, hk, hd, hi⟩ => ?_
      subst e
      exact ⟨s2.trans s3, h3.le (by omega), t, hk, by omega, by omega, rfl⟩
    · rintro ρ2 τ ⟨s2, h2, t, hk, hd, hi, rfl⟩
      have hx2 := hx.stp hln s2
      refine o_seq2 (fun ρ1 τ2 => Stp n τ τ2 ∧ Hst τ2 n (B + 1203) ∧ ∃ a b c : Str, a ∈ xs ∧ b ∈ xs ∧ c ∈ xs ∧ ρ1 = [some (.loc n), some (.int most), some (.loc l), some t.v, some (.tup (Tr.vs [.new a, .copy b c])), none, none, none]) ?_ ?_
      · (decreasing_trivial; repeat ((first | (with_reducible (refine w_len (by simp; done) ?_)) | (with_reducible (refine w_pow (by decide) (by decide) (by decide) ?_)) | fail); decreasing_trivial))
        refine (nm τ _ hx2 (by omega) h2).mono fun v τ2 ⟨s3, h3, _, a, e, ha⟩ => ?_
        subst e
        (decreasing_trivial; repeat ((first | (with_reducible (refine w_len (by simp; done) ?_)) | (with_reducible (refine w_pow (by decide) (by decide) (by decide) ?_)) | fail); decreasing_trivial))
        refine (nm τ2 _ (hx2.stp hln s3) (by omega) h3).mono fun v τ3 ⟨s4, h4, _, b, e, hb⟩ => ?_
        subst e
        (decreasing_trivial; repeat ((first | (with_reducible (refine w_len (by simp; done) ?_)) | (with_reducible (refine w_pow (by decide) (by decide) (by decide) ?_)) | fail); decreasing_trivial))
        refine (nm τ3 _ ((hx2.stp hln s3).stp hln s4) (by omega) h4).mono fun v τ4 ⟨s5, h5, _, c, e, hc⟩ => ?_
        subst e
        (decreasing_trivial; repeat ((first | (with_reducible (refine w_len (by simp; done) ?_)) | (with_reducible (refine w_pow (by decide) (by decide) (by decide) ?_)) | fail); decreasing_trivial))
        exact ⟨(s3.trans s4).trans s5, h5, a, b, c, ha, hb, hc, rfl⟩
      · rintro ρ3 τ2 ⟨s3, h3, a, b, c, ha, hb, hc, rfl⟩
        have hx3 := hx2.stp hln s3
        refine o_seq2 (fun ρ1 τ3 => Stp n τ2 τ3 ∧ Hst τ3 n (B + 1205) ∧ ∃ ws : List Tr, ws.length = 2 ∧ (∀ w ∈ ws, ∃ x, w = .use x ∧ x ∈ xs) ∧ ρ1 = [some (.loc n), some (.int most), some (.loc l), some t.v, some (.tup (Tr.vs [.new a, .copy b c])), some (.tup (Tr.vs ws)), none, none]) ?_ ?_
        · (decreasing_trivial; repeat ((first | (with_reducible (refine w_len (by simp; done) ?_)) | (with_reducible (refine w_pow (by decide) (by decide) (by decide) ?_)) | fail); decreasing_trivial))
          refine ⟨by decide, by decide, ?_⟩
          have hrl : (rangeL 0 (2 : Int).toNat).length = 2 := by simp [rangeL]
          refine wp_lc (fun i acc τ3 => Stp n τ2 τ3 ∧ Hst τ3 n (B + 1203 + i) ∧ ∃ ws : List Tr, acc = Tr.vs ws ∧ ws.length = i ∧ ∀ w ∈ ws, ∃ x, w = .use x ∧ x ∈ xs) (by rw [hrl]; omega) ?_ ?_ ?_ FUEL 0 _ _ (by rw [hrl]; unfold FUEL; omega) (by omega) ⟨Stp.refl n τ2, h3, [], rfl, rfl, by simp⟩
          · rintro i acc σ3 ⟨_, _, ws, rfl, hl, _⟩
            rw [Tr.vs_len, hl]
          · rintro acc σ3 ⟨t3, h3, ws, rfl, hl, hw⟩
            rw [hrl] at hl h3
            (decreasing_trivial; repeat ((first | (with_reducible (refine w_len (by simp; done) ?_)) | (with_reducible (refine w_pow (by decide) (by decide) (by decide) ?_)) | fail); decreasing_trivial))
            exact ⟨t3, h3, ws, hl, hw, rfl⟩
          · rintro i v acc σ3 hv ⟨t3, h3, ws, rfl, hl, hw⟩
            obtain ⟨rfl, hi3⟩ := rng_mem hv
            have hi3 : i < 2 := hi3
            refine ⟨_, rfl, ?_⟩
            (decreasing_trivial; repeat ((first | (with_reducible (refine w_len (by simp; done) ?_)) | (with_reducible (refine w_pow (by decide) (by decide) (by decide) ?_)) | fail); decreasing_trivial))
            refine (nm σ3 _ (hx3.stp hln t3) (by omega) h3).mono fun v σ4 ⟨s4, h4, _, x, e, hx1⟩ => ?_
            subst e
            (decreasing_trivial; repeat ((first | (with_reducible (refine w_len (by simp; done) ?_)) | (with_reducible (refine w_pow (by decide) (by decide) (by decide) ?_)) | fail); decreasing_trivial))
            refine ⟨t3.trans s4, h4.le (by omega), ws ++ [.use x], by simp [Tr.vs_map, Tr.v], by simp [hl], ?_⟩
            intro w hw1
            rcases List.mem_append.mp hw1 with h | h
            · exact hw w h
            · exact ⟨x, List.mem_singleton.mp h, hx1⟩
        · rintro ρ4 τ3 ⟨s4, h4, ws, hwl, hws, rfl⟩
          have okw : Tr.oks xs ws := Tr.oks_iff.mpr fun w hw => by
            obtain ⟨x, rfl, hx⟩ := hws w hw
            exact hx
          have dw : Tr.deps ws ≤ 1 := Tr.deps_iff.mpr fun w hw => by
            obtain ⟨x, rfl, hx⟩ := hws w hw
            exact Nat.le_refl _
          have iw : (Tr.insL ws).length ≤ 2 := by
            have := Tr.insL_nodes ws
            have e : Tr.nodesL ws = 2 := by
              match ws, hwl with
              | [p, q], _ =>
                obtain ⟨x, rfl, _⟩ := hws p (by simp)
                obtain ⟨y, rfl, _⟩ := hws q (by simp)
                rfl
            omega
          have xt : Ext n μ τ3 := ((x1.step s2).step s3).step s4
          refine o_seq2 (fun ρ1 τ4 => Stp n τ3 τ4 ∧ Hst τ4 n (B + 1206) ∧ ∃ w : Tr, w.ok xs ∧ w.dep ≤ 7 ∧ w.ins.length ≤ 40 ∧ ρ1 = [some (.loc n), some (.int most), some (.loc l), some t.v, some (.tup (Tr.vs [.new a, .copy b c])), some (.tup (Tr.vs ws)), some w.v, none]) ?_ ?_
          · (decreasing_trivial; repeat ((first | (with_reducible (refine w_len (by simp; done) ?_)) | (with_reducible (refine w_pow (by decide) (by decide) (by decide) ?_)) | fail); decreasing_trivial))
            refine (ht n 2 (by decide) (by decide) τ3 _ (by omega) h4).mono fun v τ4 ⟨s5, h5, _, z, e, z0, z1⟩ => ?_
            subst e
            (decreasing_trivial; repeat ((first | (with_reducible (refine w_len (by simp; done) ?_)) | (with_reducible (refine w_pow (by decide) (by decide) (by decide) ?_)) | fail); decreasing_trivial))
            have ecut : ∃ hd : List Tr, cutA (Tr.vs [.new a, .copy b c]) none (some (1 + z)) = Tr.vs hd ∧ hd.length ≤ 2 ∧ Tr.oks xs hd ∧ Tr.deps hd ≤ 1 ∧ (Tr.insL hd).length ≤ 2 := by
              have hz : z = 0 ∨ z = 1 := by omega
              rcases hz with rfl | rfl
              · exact ⟨[.new a], rfl, by simp, ⟨ha, trivial⟩, Nat.le_refl _, by simp [Tr.insL, Tr.ins]⟩
              · exact ⟨[.new a, .copy b c], rfl, by simp, ⟨ha, ⟨hb, hc⟩, trivial⟩, Nat.le_refl _, Nat.le_refl _⟩
            obtain ⟨hd2, e2, hh1, hh2, hh3, hh4⟩ := ecut
            rw [e2]
            refine w_addT (by rw [Tr.vs_len]; simp; omega) ?_
            refine w_addT (by rw [List.length_append, Tr.vs_len, Tr.vs_len]; simp; omega) ?_
            have e3 : Tr.vs hd2 ++ [t.v] ++ Tr.vs ws = Tr.vs (hd2 ++ [t] ++ ws) := by simp [Tr.vs_map]
            rw [e3]
            (decreasing_trivial; repeat ((first | (with_reducible (refine w_len (by simp; done) ?_)) | (with_reducible (refine w_pow (by decide) (by decide) (by decide) ?_)) | fail); decreasing_trivial))
            refine ⟨s5, h5, .seq (hd2 ++ [t] ++ ws), ⟨by simp; omega, ?_⟩, ?_, ?_, rfl⟩
            · rw [Tr.oks_app, Tr.oks_app]
              exact ⟨⟨hh2, hk, trivial⟩, okw⟩
            · simp only [Tr.dep]
              have : Tr.deps (hd2 ++ [t] ++ ws) ≤ 6 := by
                rw [Tr.deps_iff]
                intro p hp
                rcases List.mem_append.mp hp with hp | hp
                · rcases List.mem_append.mp hp with hp | hp
                  · have := Tr.deps_iff.mp hh3 p hp
                    omega
                  · rw [List.mem_singleton.mp hp]
                    exact hd
                · have := Tr.deps_iff.mp dw p hp
                  omega
              omega
            · simp only [Tr.ins, Tr.insL_app, List.length_append, Tr.insL, List.append_nil]
              omega
          · rintro ρ5 τ4 ⟨s5, h5, w, wk, wd, wi, rfl⟩
            refine o_seq2 (fun ρ1 τ5 => τ5 = τ4 ∧ ∃ w : Tr, w.ok xs ∧ w.dep ≤ 7 ∧ w.ins.length ≤ 40 ∧ w.nodes ≤ 60 ∧ ρ1 = [some (.loc n), some (.int most), some (.loc l), some t.v, some (.tup (Tr.vs [.new a, .copy b c])), some (.tup (Tr.vs ws)), some w.v, none]) ?_ ?_
            · (decreasing_trivial; repeat ((first | (with_reducible (refine w_len (by simp; done) ?_)) | (with_reducible (refine w_pow (by decide) (by decide) (by decide) ?_)) | fail); decreasing_trivial))
              refine (hno xs w wk wd τ4).mono fun v σ2 ⟨e1, e2⟩ => ?_
              subst e1 e2
              (decreasing_trivial; repeat ((first | (with_reducible (refine w_len (by simp; done) ?_)) | (with_reducible (refine w_pow (by decide) (by decide) (by decide) ?_)) | fail); decreasing_trivial))
              refine ite_k (fun h => ?_) (fun h => ?_)
              · (decreasing_trivial; repeat ((first | (with_reducible (refine w_len (by simp; done) ?_)) | (with_reducible (refine w_pow (by decide) (by decide) (by decide) ?_)) | fail); decreasing_trivial))
                refine w_addT (by rw [Tr.vs_len, Tr.vs_len]; simp; omega) ?_
                rw [← Tr.vs_app]
                (decreasing_trivial; repeat ((first | (with_reducible (refine w_len (by simp; done) ?_)) | (with_reducible (refine w_pow (by decide) (by decide) (by decide) ?_)) | fail); decreasing_trivial))
                refine ⟨rfl, .seq ([.new a, .copy b c] ++ ws), ⟨by simp; omega, ?_⟩, ?_, ?_, ?_, rfl⟩
                · rw [Tr.oks_app]
                  exact ⟨⟨ha, ⟨hb, hc⟩, trivial⟩, okw⟩
                · simp only [Tr.dep]
                  have : Tr.deps ([.new a, .copy b c] ++ ws) ≤ 6 := by
                    rw [Tr.deps_iff]
                    intro p hp
                    rcases List.mem_append.mp hp with hp | hp
                    · have := Tr.deps_iff.mp (show Tr.deps [.new a, .copy b c] ≤ 1 from Nat.le_refl _) p hp
                      omega
                    · have := Tr.deps_iff.mp dw p hp
                      omega
                  omega
                · simp only [Tr.ins, Tr.insL_app, List.length_append]
                  have : (Tr.insL [.new a, .copy b c]).length = 2 := rfl
                  omega
                · simp only [Tr.nodes, Tr.nodesL_app]
                  have e : Tr.nodesL ws = 2 := by
                    match ws, hwl with
                    | [p, q], _ =>
                      obtain ⟨x, rfl, _⟩ := hws p (by simp)
                      obtain ⟨y, rfl, _⟩ := hws q (by simp)
                      rfl
                  have : Tr.nodesL [.new a, .copy b c] = 2 := rfl
                  omega
              · have h := of_decide_eq_false h
                (decreasing_trivial; repeat ((first | (with_reducible (refine w_len (by simp; done) ?_)) | (with_reducible (refine w_pow (by decide) (by decide) (by decide) ?_)) | fail); decreasing_trivial))
                exact ⟨rfl, w, wk, wd, wi, by omega, rfl⟩
            · rintro ρ6 τ5 ⟨rfl, w, wk, wd, wi, wn, rfl⟩
              have fin : ∀ σ, Ext n μ σ → Hst σ n (B + 3000) → pure? w.v = true ∧ Ext n μ σ ∧ Hst σ n (B + 3000) ∧ ProgA w.v := fun σ h1 h2 => ⟨Tr.vpure w, h1, h2, w, xs, rfl, hsub, hz, wk, wd, wn, wi⟩
              (decreasing_trivial; repeat ((first | (with_reducible (refine w_len (by simp; done) ?_)) | (with_reducible (refine w_pow (by decide) (by decide) (by decide) ?_)) | fail); decreasing_trivial))
              refine (ht n 9 (by decide) (by decide) τ5 _ (by omega) h5).mono fun v τ6 ⟨s6, h6, _, z, e, z0, z1⟩ => ?_
              subst e
              have x6 := (xt.step s5).step s6
              (decreasing_trivial; repeat ((first | (with_reducible (refine w_len (by simp; done) ?_)) | (with_reducible (refine w_pow (by decide) (by decide) (by decide) ?_)) | fail); decreasing_trivial))
              refine ite_k (fun h => ?_) (fun h => ?_)
              · rw [if_pos rfl]
                (decreasing_trivial; repeat ((first | (with_reducible (refine w_len (by simp; done) ?_)) | (with_reducible (refine w_pow (by decide) (by decide) (by decide) ?_)) | fail); decreasing_trivial))
                exact fin _ x6 (h6.le (by omega))
              · (decreasing_trivial; repeat ((first | (with_reducible (refine w_len (by simp; done) ?_)) | (with_reducible (refine w_pow (by decide) (by decide) (by decide) ?_)) | fail); decreasing_trivial))
                refine (hno xs t hk (by omega) τ6).mono fun v σ2 ⟨e1, e2⟩ => ?_
                subst e1 e2
                (decreasing_trivial; repeat ((first | (with_reducible (refine w_len (by simp; done) ?_)) | (with_reducible (refine w_pow (by decide) (by decide) (by decide) ?_)) | fail); decreasing_trivial))
                refine ite_k (fun h => ?_) (fun h => ?_)
                · (decreasing_trivial; repeat ((first | (with_reducible (refine w_len (by simp; done) ?_)) | (with_reducible (refine w_pow (by decide) (by decide) (by decide) ?_)) | fail); decreasing_trivial))
                  exact fin _ x6 (h6.le (by omega))
                · have h := of_decide_eq_false h
                  (decreasing_trivial; repeat ((first | (with_reducible (refine w_len (by simp; done) ?_)) | (with_reducible (refine w_pow (by decide) (by decide) (by decide) ?_)) | fail); decreasing_trivial))
                  exact ⟨Tr.vpure t, x6, h6.le (by omega), t, xs, rfl, hsub, hz, hk, by omega, by omega, by omega⟩
end Lr

namespace Lr
open PySem PySem.Spec L2

def Tr.parts : Tr → List Tr
  | .seq ps => ps | .branch ps => ps | .loop p => [p] | _ => []
theorem Tr.parts_ok {N : List Str} {t : Tr} (k : t.ok N) : (∀ p ∈ t.parts, p.ok N) ∧ t.parts.length ≤ 20 := by
  cases t with
  | seq ps => exact ⟨Tr.oks_iff.mp k.2, k.1⟩
  | branch ps => exact ⟨Tr.oks_iff.mp k.2, by have := k.1.2; simp only [Tr.parts]; omega⟩
  | loop p => exact ⟨fun q hq => by rw [List.mem_singleton.mp hq]; exact k, by simp [Tr.parts]⟩
  | _ => exact ⟨fun q hq => (nomatch hq), by simp [Tr.parts]⟩
theorem Tr.parts_dep {d : Nat} {t : Tr} (h : t.dep ≤ d + 1) : ∀ p ∈ t.parts, p.dep ≤ d := by
  cases t with
  | seq ps => exact Tr.deps_iff.mp (show Tr.deps ps ≤ d by simp only [Tr.dep] at h; omega)
  | branch ps => exact Tr.deps_iff.mp (show Tr.deps ps ≤ d by simp only [Tr.dep] at h; omega)
  | loop p => exact fun q hq => by rw [List.mem_singleton.mp hq]; simp only [Tr.dep] at h; omega
  | _ => exact fun q hq => nomatch hq
theorem Tr.parts_ins {t : Tr} (h : t.leaf = false) : t.ins = Tr.insL t.parts := by
  cases t with
  | seq ps => rfl
  | branch ps => rfl
  | loop p => simp [Tr.ins, Tr.parts, Tr.insL]
  | _ => cases h
def PartsOk (f : Fn) : Prop := ∀ (t : Tr), Pure1 f [t.v] (.tup (Tr.vs t.parts))
theorem parts_ok (T : Nat → Fn) : PartsOk (fnR 1 1 (m19_parts_of T)) := fun t => Pure1.of rfl fun μ => by
  have pv := Tr.vpures t.parts
  have leaf : ∀ a r, (a == ("loop" : Str)) = false → (("seq" : Str) == a || ("branch" : Str) == a) = false → wo (m19_parts_of T [some (.tup (.str a :: r))] μ) { rt := fun v σ => σ = μ ∧ pure? v = true ∧ v = .tup [] } := fun a r h1 h2 => by
    unfold m19_parts_of
    (decreasing_trivial; repeat ((first | (with_reducible (refine w_len (by simp; done) ?_)) | (with_reducible (refine w_pow (by decide) (by decide) (by decide) ?_)) | fail); decreasing_trivial))
    refine w_ixT atI_0 ?_
    (decreasing_trivial; repeat ((first | (with_reducible (refine w_len (by simp; done) ?_)) | (with_reducible (refine w_pow (by decide) (by decide) (by decide) ?_)) | fail); decreasing_trivial))
    refine gEq_s h1 ?_
    (decreasing_trivial; repeat ((first | (with_reducible (refine w_len (by simp; done) ?_)) | (with_reducible (refine w_pow (by decide) (by decide) (by decide) ?_)) | fail); decreasing_trivial))
    rw [if_neg (by simp)]
    (decreasing_trivial; repeat ((first | (with_reducible (refine w_len (by simp; done) ?_)) | (with_reducible (refine w_pow (by decide) (by decide) (by decide) ?_)) | fail); decreasing_trivial))
    refine w_ixT atI_0 ?_
    (decreasing_trivial; repeat ((first | (with_reducible (refine w_len (by simp; done) ?_)) | (with_reducible (refine w_pow (by decide) (by decide) (by decide) ?_)) | fail); decreasing_trivial))
    refine gIn_2 h2 ?_
    (decreasing_trivial; repeat ((first | (with_reducible (refine w_len (by simp; done) ?_)) | (with_reducible (refine w_pow (by decide) (by decide) (by decide) ?_)) | fail); decreasing_trivial))
    rw [if_neg (by simp)]
    (decreasing_trivial; repeat ((first | (with_reducible (refine w_len (by simp; done) ?_)) | (with_reducible (refine w_pow (by decide) (by decide) (by decide) ?_)) | fail); decreasing_trivial))
    exact ⟨rfl, rfl, rfl⟩
  have many : ∀ a (ps : List Tr), (a == ("loop" : Str)) = false → (("seq" : Str) == a || ("branch" : Str) == a) = true → wo (m19_parts_of T [some (.tup [.str a, .tup (Tr.vs ps)])] μ) { rt := fun v σ => σ = μ ∧ pure? v = true ∧ v = .tup (Tr.vs ps) } := fun a ps h1 h2 => by
    unfold m19_parts_of
    (decreasing_trivial; repeat ((first | (with_reducible (refine w_len (by simp; done) ?_)) | (with_reducible (refine w_pow (by decide) (by decide) (by decide) ?_)) | fail); decreasing_trivial))
    refine w_ixT rfl ?_
    (decreasing_trivial; repeat ((first | (with_reducible (refine w_len (by simp; done) ?_)) | (with_reducible (refine w_pow (by decide) (by decide) (by decide) ?_)) | fail); decreasing_trivial))
    refine gEq_s h1 ?_
    (decreasing_trivial; repeat ((first | (with_reducible (refine w_len (by simp; done) ?_)) | (with_reducible (refine w_pow (by decide) (by decide) (by decide) ?_)) | fail); decreasing_trivial))
    rw [if_neg (by simp)]
    (decreasing_trivial; repeat ((first | (with_reducible (refine w_len (by simp; done) ?_)) | (with_reducible (refine w_pow (by decide) (by decide) (by decide) ?_)) | fail); decreasing_trivial))
    refine w_ixT rfl ?_
    (decreasing_trivial; repeat ((first | (with_reducible (refine w_len (by simp; done) ?_)) | (with_reducible (refine w_pow (by decide) (by decide) (by decide) ?_)) | fail); decreasing_trivial))
    refine gIn_2 h2 ?_
    (decreasing_trivial; repeat ((first | (with_reducible (refine w_len (by simp; done) ?_)) | (with_reducible (refine w_pow (by decide) (by decide) (by decide) ?_)) | fail); decreasing_trivial))
    rw [if_pos rfl]
    (decreasing_trivial; repeat ((first | (with_reducible (refine w_len (by simp; done) ?_)) | (with_reducible (refine w_pow (by decide) (by decide) (by decide) ?_)) | fail); decreasing_trivial))
    refine w_ixT rfl ?_
    exact ⟨rfl, by simpa [pure?] using Tr.vpures ps, rfl⟩
  cases t with
  | new x => exact leaf _ _ (by decide) (by decide)
  | use x => exact leaf _ _ (by decide) (by decide)
  | drop x => exact leaf _ _ (by decide) (by decide)
  | copy x y => exact leaf _ _ (by decide) (by decide)
  | seq ps => exact many _ ps (by decide) (by decide)
  | branch ps => exact many _ ps (by decide) (by decide)
  | loop p =>
    simp only [startA_s, List.map_cons, List.map_nil, List.length_cons, List.length_nil, Nat.reduceAdd, Nat.reduceSub, List.replicate_succ, List.replicate_zero, List.cons_append, List.nil_append]
    unfold m19_parts_of
    simp only [Tr.v]
    (decreasing_trivial; repeat ((first | (with_reducible (refine w_len (by simp; done) ?_)) | (with_reducible (refine w_pow (by decide) (by decide) (by decide) ?_)) | fail); decreasing_trivial))
    refine w_ixT rfl ?_
    (decreasing_trivial; repeat ((first | (with_reducible (refine w_len (by simp; done) ?_)) | (with_reducible (refine w_pow (by decide) (by decide) (by decide) ?_)) | fail); decreasing_trivial))
    refine gEq_s (b := true) (by decide) ?_
    (decreasing_trivial; repeat ((first | (with_reducible (refine w_len (by simp; done) ?_)) | (with_reducible (refine w_pow (by decide) (by decide) (by decide) ?_)) | fail); decreasing_trivial))
    rw [if_pos rfl]
    (decreasing_trivial; repeat ((first | (with_reducible (refine w_len (by simp; done) ?_)) | (with_reducible (refine w_pow (by decide) (by decide) (by decide) ?_)) | fail); decreasing_trivial))
    exact ⟨rfl, pv, rfl⟩

theorem Tr.v_head (t : Tr) : ∃ a r, t.v = .tup (.str a :: r) ∧ (t.leaf = true → (("seq" : Str) == a || (("branch" : Str) == a || ("loop" : Str) == a)) = false) ∧ (t.leaf = false → (("seq" : Str) == a || (("branch" : Str) == a || ("loop" : Str) == a)) = true) := by
  cases t with
  | new x => exact ⟨_, _, rfl, fun _ => by decide, fun h => nomatch h⟩
  | use x => exact ⟨_, _, rfl, fun _ => by decide, fun h => nomatch h⟩
  | drop x => exact ⟨_, _, rfl, fun _ => by decide, fun h => nomatch h⟩
  | copy x y => exact ⟨_, _, rfl, fun _ => by decide, fun h => nomatch h⟩
  | seq ps => exact ⟨_, _, rfl, fun h => (nomatch h), fun _ => by decide⟩
  | branch ps => exact ⟨_, _, rfl, fun h => (nomatch h), fun _ => by decide⟩
  | loop p => exact ⟨_, _, rfl, fun h => (nomatch h), fun _ => by decide⟩
theorem insL_take {ps : List Tr} {i : Nat} {p : Tr} (h : ps[i]? = some p) : Tr.insL (ps.take (i + 1)) = Tr.insL (ps.take i) ++ p.ins := by
  rw [List.take_add_one, h, Tr.insL_app]
  simp [Tr.insL]
theorem insL_take_le (ps : List Tr) (i : Nat) : (Tr.insL (ps.take i)).length ≤ (Tr.insL ps).length := by
  have e : ps = ps.take i ++ ps.drop i := (List.take_append_drop i ps).symm
  conv => rhs; rw [e]
  rw [Tr.insL_app, List.length_append]
  omega
def InstrsOk (f : Fn) (d : Nat) : Prop := ∀ (N : List Str) (t : Tr), t.ok N → t.dep ≤ d → t.ins.length ≤ 100000 → Pure1 f [t.v] (.tup (Tr.vs t.ins))
theorem instrs_ok (T : Nat → Fn) (hp : PartsOk (T i19_parts_of)) (d : Nat) (ih : InstrsOk (T i20_instructions) d) : InstrsOk (fnR 3 1 (m20_instructions T)) (d + 1) := fun N t k hd hz => Pure1.of' rfl fun μ => by
  obtain ⟨a, r, e, hl, hc⟩ := Tr.v_head t
  simp only [startA_s, List.map_cons, List.map_nil, List.length_cons, List.length_nil, Nat.reduceAdd, Nat.reduceSub, List.replicate_succ, List.replicate_zero, List.cons_append, List.nil_append]
  unfold m20_instructions
  cases ht : t.leaf with
  | true =>
    rw [leaf_ins ht]
    have pv := Tr.vpure t
    rw [e]
    (decreasing_trivial; repeat ((first | (with_reducible (refine w_len (by simp; done) ?_)) | (with_reducible (refine w_pow (by decide) (by decide) (by decide) ?_)) | fail); decreasing_trivial))
    refine w_ixT atI_0 ?_
    (decreasing_trivial; repeat ((first | (with_reducible (refine w_len (by simp; done) ?_)) | (with_reducible (refine w_pow (by decide) (by decide) (by decide) ?_)) | fail); decreasing_trivial))
    refine gNotIn_3 (hl ht) ?_
    (decreasing_trivial; repeat ((first | (with_reducible (refine w_len (by simp; done) ?_)) | (with_reducible (refine w_pow (by decide) (by decide) (by decide) ?_)) | fail); decreasing_trivial))
    rw [if_pos (by simp)]
    (decreasing_trivial; repeat ((first | (with_reducible (refine w_len (by simp; done) ?_)) | (with_reducible (refine w_pow (by decide) (by decide) (by decide) ?_)) | fail); decreasing_trivial))
    rw [← e]
    exact ⟨List.prefix_refl _, by simp [pure?, pureL, pv], by simp [Tr.vs]⟩
  | false =>
    rw [Tr.parts_ins ht] at hz ⊢
    rw [e]
    (decreasing_trivial; repeat ((first | (with_reducible (refine w_len (by simp; done) ?_)) | (with_reducible (refine w_pow (by decide) (by decide) (by decide) ?_)) | fail); decreasing_trivial))
    refine w_ixT atI_0 ?_
    (decreasing_trivial; repeat ((first | (with_reducible (refine w_len (by simp; done) ?_)) | (with_reducible (refine w_pow (by decide) (by decide) (by decide) ?_)) | fail); decreasing_trivial))
    refine gNotIn_3 (hc ht) ?_
    (decreasing_trivial; repeat ((first | (with_reducible (refine w_len (by simp; done) ?_)) | (with_reducible (refine w_pow (by decide) (by decide) (by decide) ?_)) | fail); decreasing_trivial))
    rw [if_neg (by simp)]
    (decreasing_trivial; repeat ((first | (with_reducible (refine w_len (by simp; done) ?_)) | (with_reducible (refine w_pow (by decide) (by decide) (by decide) ?_)) | fail); decreasing_trivial))
    rw [← e]
    refine w_anyT ?_
    (decreasing_trivial; repeat ((first | (with_reducible (refine w_len (by simp; done) ?_)) | (with_reducible (refine w_pow (by decide) (by decide) (by decide) ?_)) | fail); decreasing_trivial))
    refine (hp t _).mono fun v σ ⟨e1, e2⟩ => ?_
    subst e1 e2
    refine ⟨_, rfl, ?_⟩
    refine wo_dat (fun i ρ τ => ∃ x2, ρ = [some t.v, some (.loc μ.length), x2] ∧ μ <+: τ ∧ τ[μ.length]? = some (.lst (Tr.vs (Tr.insL (t.parts.take i))))) ?_ ?_ FUEL 0 _ _ (by rw [Tr.vs_len]; have := (Tr.parts_ok k).2; unfold FUEL; omega) (by omega) ⟨_, rfl, List.prefix_append _ _, push_get⟩
    · rintro ρ τ ⟨x2, rfl, pre, e3⟩
      rw [Tr.vs_len, List.take_length] at e3
      (decreasing_trivial; repeat ((first | (with_reducible (refine w_len (by simp; done) ?_)) | (with_reducible (refine w_pow (by decide) (by decide) (by decide) ?_)) | fail); decreasing_trivial))
      refine w_tupO e3 ?_
      exact ⟨pre, by simpa [pure?] using Tr.vpures _, rfl⟩
    · rintro i v ρ τ hv ⟨x2, rfl, pre, e3⟩
      rw [Tr.vs_map, List.getElem?_map] at hv
      obtain ⟨p, hpi, rfl⟩ := Option.map_eq_some_iff.mp hv
      have hm := List.mem_of_getElem? hpi
      have hz1 := insL_take_le t.parts (i + 1)
      rw [insL_take hpi, List.length_append] at hz1
      refine ⟨_, rfl, ?_⟩
      (decreasing_trivial; repeat ((first | (with_reducible (refine w_len (by simp; done) ?_)) | (with_reducible (refine w_pow (by decide) (by decide) (by decide) ?_)) | fail); decreasing_trivial))
      refine ⟨by simp [isLs, lsOf, e3], ?_⟩
      (decreasing_trivial; repeat ((first | (with_reducible (refine w_len (by simp; done) ?_)) | (with_reducible (refine w_pow (by decide) (by decide) (by decide) ?_)) | fail); decreasing_trivial))
      refine (ih N p ((Tr.parts_ok k).1 p hm) (Tr.parts_dep hd p hm) (by omega) τ).mono fun v σ ⟨e1, e2⟩ => ?_
      subst e1 e2
      refine ⟨μ.length, _, _, rfl, e3, rfl, by rw [Tr.vs_len, Tr.vs_len]; omega, _, rfl, pre_set pre (Nat.le_refl _), ?_⟩
      rw [List.getElem?_set_self (List.getElem?_eq_some_iff.mp e3).1, insL_take hpi, Tr.vs_app]

def ListedOk (f : Fn) (d : Nat) : Prop := ∀ (N : List Str) (t : Tr), t.ok N → t.dep ≤ d → t.ins.length ≤ 100000 → Pure1 f [t.v] (.lst (Tr.vs t.ins))
theorem listed_ok (T : Nat → Fn) (d : Nat) (ih : ListedOk (T i23_law_listed) d) : ListedOk (fnR 3 1 (m23_law_listed T)) (d + 1) := fun N t k hd hz => Pure1.of rfl fun μ => by
  have leaf : ∀ (t : Tr) a r, t.v = .tup (.str a :: r) → t.leaf = true → (a == ("loop" : Str)) = false → (("seq" : Str) == a || ("branch" : Str) == a) = false → wo (m23_law_listed T [some t.v, none, none] μ) { rt := fun v σ => σ = μ ∧ pure? v = true ∧ v = .lst (Tr.vs t.ins) } := fun t a r e ht h1 h2 => by
    have pv := Tr.vpure t
    rw [leaf_ins ht]
    unfold m23_law_listed
    rw [e]
    (decreasing_trivial; repeat ((first | (with_reducible (refine w_len (by simp; done) ?_)) | (with_reducible (refine w_pow (by decide) (by decide) (by decide) ?_)) | fail); decreasing_trivial))
    refine w_ixT atI_0 ?_
    (decreasing_trivial; repeat ((first | (with_reducible (refine w_len (by simp; done) ?_)) | (with_reducible (refine w_pow (by decide) (by decide) (by decide) ?_)) | fail); decreasing_trivial))
    refine gEq_s h1 ?_
    (decreasing_trivial; repeat ((first | (with_reducible (refine w_len (by simp; done) ?_)) | (with_reducible (refine w_pow (by decide) (by decide) (by decide) ?_)) | fail); decreasing_trivial))
    rw [if_neg (by simp)]
    (decreasing_trivial; repeat ((first | (with_reducible (refine w_len (by simp; done) ?_)) | (with_reducible (refine w_pow (by decide) (by decide) (by decide) ?_)) | fail); decreasing_trivial))
    refine w_ixT atI_0 ?_
    (decreasing_trivial; repeat ((first | (with_reducible (refine w_len (by simp; done) ?_)) | (with_reducible (refine w_pow (by decide) (by decide) (by decide) ?_)) | fail); decreasing_trivial))
    refine gIn_2 h2 ?_
    (decreasing_trivial; repeat ((first | (with_reducible (refine w_len (by simp; done) ?_)) | (with_reducible (refine w_pow (by decide) (by decide) (by decide) ?_)) | fail); decreasing_trivial))
    rw [if_neg (by simp)]
    (decreasing_trivial; repeat ((first | (with_reducible (refine w_len (by simp; done) ?_)) | (with_reducible (refine w_pow (by decide) (by decide) (by decide) ?_)) | fail); decreasing_trivial))
    rw [← e]
    exact ⟨rfl, by simp [pure?, pureL, pv], by simp [Tr.vs]⟩
  have many : ∀ a (ps : List Tr), (a == ("loop" : Str)) = false → (("seq" : Str) == a || ("branch" : Str) == a) = true → ps.length ≤ 20 → Tr.oks N ps → Tr.deps ps ≤ d → (Tr.insL ps).length ≤ 100000 → wo (m23_law_listed T [some (.tup [.str a, .tup (Tr.vs ps)]), none, none] μ) { rt := fun v σ => σ = μ ∧ pure? v = true ∧ v = .lst (Tr.vs (Tr.insL ps)) } := fun a ps h1 h2 hl hk hdp hz => by
    unfold m23_law_listed
    (decreasing_trivial; repeat ((first | (with_reducible (refine w_len (by simp; done) ?_)) | (with_reducible (refine w_pow (by decide) (by decide) (by decide) ?_)) | fail); decreasing_trivial))
    refine w_ixT rfl ?_
    (decreasing_trivial; repeat ((first | (with_reducible (refine w_len (by simp; done) ?_)) | (with_reducible (refine w_pow (by decide) (by decide) (by decide) ?_)) | fail); decreasing_trivial))
    refine gEq_s h1 ?_
    (decreasing_trivial; repeat ((first | (with_reducible (refine w_len (by simp; done) ?_)) | (with_reducible (refine w_pow (by decide) (by decide) (by decide) ?_)) | fail); decreasing_trivial))
    rw [if_neg (by simp)]
    (decreasing_trivial; repeat ((first | (with_reducible (refine w_len (by simp; done) ?_)) | (with_reducible (refine w_pow (by decide) (by decide) (by decide) ?_)) | fail); decreasing_trivial))
    refine w_ixT rfl ?_
    (decreasing_trivial; repeat ((first | (with_reducible (refine w_len (by simp; done) ?_)) | (with_reducible (refine w_pow (by decide) (by decide) (by decide) ?_)) | fail); decreasing_trivial))
    refine gIn_2 h2 ?_
    (decreasing_trivial; repeat ((first | (with_reducible (refine w_len (by simp; done) ?_)) | (with_reducible (refine w_pow (by decide) (by decide) (by decide) ?_)) | fail); decreasing_trivial))
    rw [if_pos rfl]
    (decreasing_trivial; repeat ((first | (with_reducible (refine w_len (by simp; done) ?_)) | (with_reducible (refine w_pow (by decide) (by decide) (by decide) ?_)) | fail); decreasing_trivial))
    refine w_anyT ?_
    refine w_op ?_
    (decreasing_trivial; repeat ((first | (with_reducible (refine w_len (by simp; done) ?_)) | (with_reducible (refine w_pow (by decide) (by decide) (by decide) ?_)) | fail); decreasing_trivial))
    refine w_ixT rfl ?_
    refine ⟨_, rfl, ?_⟩
    refine wo_dat (fun i ρ τ => τ = μ ∧ ∃ x2, ρ = [some (.tup [.str a, .tup (Tr.vs ps)]), some (.lst (Tr.vs (Tr.insL (ps.take i)))), x2]) ?_ ?_ FUEL 0 _ _ (by rw [Tr.vs_len]; unfold FUEL; omega) (by omega) ⟨rfl, _, rfl⟩
    · rintro ρ τ ⟨rfl, x2, rfl⟩
      rw [Tr.vs_len, List.take_length]
      (decreasing_trivial; repeat ((first | (with_reducible (refine w_len (by simp; done) ?_)) | (with_reducible (refine w_pow (by decide) (by decide) (by decide) ?_)) | fail); decreasing_trivial))
      exact ⟨rfl, by simpa [pure?] using Tr.vpures _, rfl⟩
    · rintro i v ρ τ hv ⟨rfl, x2, rfl⟩
      rw [Tr.vs_map, List.getElem?_map] at hv
      obtain ⟨p, hpi, rfl⟩ := Option.map_eq_some_iff.mp hv
      have hm := List.mem_of_getElem? hpi
      have hz1 := insL_take_le ps (i + 1)
      rw [insL_take hpi, List.length_append] at hz1
      refine ⟨_, rfl, ?_⟩
      (decreasing_trivial; repeat ((first | (with_reducible (refine w_len (by simp; done) ?_)) | (with_reducible (refine w_pow (by decide) (by decide) (by decide) ?_)) | fail); decreasing_trivial))
      refine (ih N p (Tr.oks_iff.mp hk p hm) (Tr.deps_iff.mp hdp p hm) (by omega) τ).mono fun v σ ⟨e1, e2⟩ => ?_
      subst e1 e2
      refine ⟨_, _, rfl, rfl, by rw [Tr.vs_len, Tr.vs_len]; omega, ?_⟩
      refine ⟨rfl, some p.v, ?_⟩
      rw [insL_take hpi, Tr.vs_app]
      rfl
  cases t with
  | new x => exact leaf (.new x) _ _ rfl rfl (by decide) (by decide)
  | use x => exact leaf (.use x) _ _ rfl rfl (by decide) (by decide)
  | drop x => exact leaf (.drop x) _ _ rfl rfl (by decide) (by decide)
  | copy x y => exact leaf (.copy x y) _ _ rfl rfl (by decide) (by decide)
  | seq ps => exact many _ ps (by decide) (by decide) k.1 k.2 (by simp only [Tr.dep] at hd; omega) hz
  | branch ps => exact many _ ps (by decide) (by decide) (by have := k.1.2; omega) k.2 (by simp only [Tr.dep] at hd; omega) hz
  | loop p =>
    simp only [startA_s, List.map_cons, List.map_nil, List.length_cons, List.length_nil, Nat.reduceAdd, Nat.reduceSub, List.replicate_succ, List.replicate_zero, List.cons_append, List.nil_append]
    unfold m23_law_listed
    simp only [Tr.v]
    (decreasing_trivial; repeat ((first | (with_reducible (refine w_len (by simp; done) ?_)) | (with_reducible (refine w_pow (by decide) (by decide) (by decide) ?_)) | fail); decreasing_trivial))
    refine w_ixT rfl ?_
    (decreasing_trivial; repeat ((first | (with_reducible (refine w_len (by simp; done) ?_)) | (with_reducible (refine w_pow (by decide) (by decide) (by decide) ?_)) | fail); decreasing_trivial))
    refine gEq_s (b := true) (by decide) ?_
    (decreasing_trivial; repeat ((first | (with_reducible (refine w_len (by simp; done) ?_)) | (with_reducible (refine w_pow (by decide) (by decide) (by decide) ?_)) | fail); decreasing_trivial))
    rw [if_pos rfl]
    (decreasing_trivial; repeat ((first | (with_reducible (refine w_len (by simp; done) ?_)) | (with_reducible (refine w_pow (by decide) (by decide) (by decide) ?_)) | fail); decreasing_trivial))
    refine w_ixT rfl ?_
    (decreasing_trivial; repeat ((first | (with_reducible (refine w_len (by simp; done) ?_)) | (with_reducible (refine w_pow (by decide) (by decide) (by decide) ?_)) | fail); decreasing_trivial))
    refine (ih N p k (by simp only [Tr.dep] at hd; omega) hz μ).mono fun v σ ⟨e1, e2⟩ => ?_
    subst e1 e2
    exact ⟨rfl, by simpa [pure?] using Tr.vpures _, rfl⟩

def Tr.wd : Tr → List Str
  | .new x => [x] | .use x => [x] | .drop x => [x] | .copy x y => [x, y] | _ => []
theorem Tr.wd_v {t : Tr} (h : t.leaf = true) : ∃ a, t.v = .tup (.str a :: t.wd.map AV.str) := by
  cases t <;> first | exact ⟨_, rfl⟩ | cases h
theorem Tr.wd_ok {N : List Str} {t : Tr} (h : t.leaf = true) (k : t.ok N) : ∀ x ∈ t.wd, x ∈ N := by
  cases t <;> first | (intro z hz; rw [List.mem_singleton.mp hz]; exact k) | cases h | skip
  intro z hz
  rcases List.mem_cons.mp hz with e | hz
  · rw [e]; exact k.1
  · rw [List.mem_singleton.mp hz]; exact k.2
theorem Tr.wd_len {t : Tr} : t.wd.length ≤ 2 := by cases t <;> simp [Tr.wd]
def addK (ks : List Str) (x : Str) : List Str := if x ∈ ks then ks else ks ++ [x]
def tb (ks : List Str) : List (Key × AV) := ks.map fun x => (.inr x, .bl true)
theorem tb_keys (ks : List Str) : strsOf ((tb ks).map (·.1)) = some ks := by
  induction ks with
  | nil => rfl
  | cons x ks ih =>
    show (strsOf ((tb ks).map (·.1))).map (x :: ·) = _
    rw [ih]
    rfl
theorem tb_put (ks : List Str) (x : Str) : putA (tb ks) (.inr x) (.bl true) = tb (addK ks x) := by
  have e : ((tb ks).any fun kv => decide (kv.1 = Sum.inr x)) = decide (x ∈ ks) := by
    unfold tb
    rw [List.any_map]
    apply Bool.eq_iff_iff.mpr
    simp only [List.any_eq_true, Function.comp, decide_eq_true_eq, Sum.inr.injEq, exists_eq_right]
  unfold putA addK
  rw [e]
  by_cases h : x ∈ ks
  · rw [if_pos (decide_eq_true h), if_pos h]
    unfold tb
    rw [List.map_map]
    apply List.map_congr_left
    intro y hy
    simp only [Function.comp, Sum.inr.injEq]
    split <;> rfl
  · rw [if_neg (by rw [decide_eq_false h]; exact Bool.false_ne_true), if_neg h]
    simp [tb]
theorem mem_addK {ks : List Str} {x y : Str} : y ∈ addK ks x ↔ y ∈ ks ∨ y = x := by
  unfold addK
  split
  · constructor
    · exact .inl
    · rintro (h | h)
      · exact h
      · rw [h]; assumption
  · simp
theorem mem_foldK {ms : List Str} : ∀ {ks : List Str} {y : Str}, y ∈ ms.foldl addK ks ↔ y ∈ ks ∨ y ∈ ms := by
  induction ms with
  | nil => simp
  | cons x ms ih =>
    intro ks y
    rw [List.foldl_cons, ih, mem_addK, List.mem_cons, or_assoc]
theorem nodup_addK {ks : List Str} {x : Str} (h : ks.Nodup) : (addK ks x).Nodup := by
  unfold addK
  split
  · exact h
  · rename_i hx
    exact List.nodup_append.mpr ⟨h, by simp, fun a ha b hb e => hx (by rw [List.mem_singleton.mp hb] at e; exact e ▸ ha)⟩
theorem nodup_foldK {ms : List Str} : ∀ {ks : List Str}, ks.Nodup → (ms.foldl addK ks).Nodup := by
  induction ms with
  | nil => exact fun h => h
  | cons x ms ih => exact fun h => ih (nodup_addK h)

theorem foldK_foldK (ms : List Str) : ∀ ks : List Str, (ms.foldl addK []).foldl addK ks = ms.foldl addK ks := by
  suffices h : ∀ (ms acc ks : List Str), (ms.foldl addK acc).foldl addK ks = ms.foldl addK (acc.foldl addK ks) from fun ks => h ms [] ks
  intro ms
  induction ms with
  | nil => exact fun _ _ => rfl
  | cons x ms ih =>
    intro acc ks
    rw [List.foldl_cons, List.foldl_cons, ih]
    congr 1
    by_cases hx : x ∈ acc
    · rw [addK, if_pos hx, addK, if_pos (mem_foldK.mpr (.inr hx))]
    · rw [addK, if_neg hx, List.foldl_append]
      rfl
theorem tb_merge (ms : List Str) : ∀ ks : List Str, mergeA (tb ks) (tb ms) = tb (ms.foldl addK ks) := by
  induction ms with
  | nil => exact fun _ => rfl
  | cons x ms ih =>
    intro ks
    show mergeA (putA (tb ks) (.inr x) (.bl true)) (tb ms) = _
    rw [tb_put, ih]
    rfl
def keysI (is : List Tr) : List Str := (is.flatMap Tr.wd).foldl addK []
theorem keysI_len {is : List Tr} (h : ∀ i ∈ is, ∀ x ∈ i.wd, x ∈ NM) : (keysI is).length ≤ 10 := by
  refine List.Nodup.length_le_of_subset (l₂ := NM) (nodup_foldK .nil) fun y hy => ?_
  rcases mem_foldK.mp hy with hy | hy
  · cases hy
  · obtain ⟨i, hi, hx⟩ := List.mem_flatMap.mp hy
    exact h i hi y hx
theorem keysI_take {is : List Tr} {i : Nat} {p : Tr} (h : is[i]? = some p) : keysI (is.take (i + 1)) = p.wd.foldl addK (keysI (is.take i)) := by
  unfold keysI
  rw [List.take_add_one, h, List.flatMap_append, List.foldl_append]
  simp
end Lr

namespace Lr
open PySem PySem.Spec L2
def WordsOk (f : Fn) : Prop := ∀ is : List Tr, (∀ i ∈ is, i.leaf = true ∧ i.ok NM) → is.length ≤ 100000 → Pure1 f [.tup (Tr.vs is)] (.tup ((sortS (keysI is)).map AV.str))
theorem foldK_len (ms ks : List Str) : (ms.foldl addK ks).length ≤ ks.length + ms.length := by
  induction ms generalizing ks with
  | nil => exact Nat.le_refl _
  | cons x ms ih =>
    have h1 := ih (addK ks x)
    have h2 : (addK ks x).length ≤ ks.length + 1 := by unfold addK; split <;> simp
    rw [List.foldl_cons, List.length_cons]
    omega
theorem tb_len (ks : List Str) : (tb ks).length = ks.length := List.length_map ..
theorem pre_push {μ σ : Store} {o : AO} (h : μ <+: σ) : μ <+: σ ++ [o] := h.trans (List.prefix_append _ _)
theorem words_ok (T : Nat → Fn) : WordsOk (fnR 4 1 (m21_words_of T)) := fun is his hz => Pure1.of' rfl fun μ => by
  have hw : ∀ i ∈ is, ∀ x ∈ i.wd, x ∈ NM := fun i hi => Tr.wd_ok (his i hi).1 (his i hi).2
  have hk : ∀ j, (keysI (is.take j)).length ≤ 10 := fun j => keysI_len fun i hi => hw i (List.mem_of_mem_take hi)
  simp only [startA_s, List.map_cons, List.map_nil, List.length_cons, List.length_nil, Nat.reduceAdd, Nat.reduceSub, List.replicate_succ, List.replicate_zero, List.cons_append, List.nil_append]
  unfold m21_words_of
  (decreasing_trivial; repeat ((first | (with_reducible (refine w_len (by simp; done) ?_)) | (with_reducible (refine w_pow (by decide) (by decide) (by decide) ?_)) | fail); decreasing_trivial))
  refine w_anyT ?_
  (decreasing_trivial; repeat ((first | (with_reducible (refine w_len (by simp; done) ?_)) | (with_reducible (refine w_pow (by decide) (by decide) (by decide) ?_)) | fail); decreasing_trivial))
  refine wo_dat (fun i ρ τ => ∃ x2 x3, ρ = [some (.tup (Tr.vs is)), some (.loc μ.length), x2, x3] ∧ μ <+: τ ∧ τ[μ.length]? = some (.dct (tb (keysI (is.take i))))) ?_ ?_ FUEL 0 _ _ (by rw [Tr.vs_len]; unfold FUEL; omega) (by omega) ⟨_, _, rfl, List.prefix_append _ _, by simp; rfl⟩
  · rintro ρ τ ⟨x2, x3, rfl, pre, e3⟩
    rw [Tr.vs_len, List.take_length] at e3
    (decreasing_trivial; repeat ((first | (with_reducible (refine w_len (by simp; done) ?_)) | (with_reducible (refine w_pow (by decide) (by decide) (by decide) ?_)) | fail); decreasing_trivial))
    refine w_sortD e3 (tb_keys _) (by have := hk is.length; rw [List.take_length] at this; omega) ?_
    (decreasing_trivial; repeat ((first | (with_reducible (refine w_len (by simp; done) ?_)) | (with_reducible (refine w_pow (by decide) (by decide) (by decide) ?_)) | fail); decreasing_trivial))
    exact ⟨pre, by simpa [pure?] using pure_strs _, rfl⟩
  · rintro i v ρ τ hv ⟨x2, x3, rfl, pre, e3⟩
    rw [Tr.vs_map, List.getElem?_map] at hv
    obtain ⟨p, hpi, rfl⟩ := Option.map_eq_some_iff.mp hv
    have hm := List.mem_of_getElem? hpi
    obtain ⟨a, ea⟩ := Tr.wd_v (his p hm).1
    refine ⟨_, rfl, ?_⟩
    have hlt := (List.getElem?_eq_some_iff.mp e3).1
    (decreasing_trivial; repeat ((first | (with_reducible (refine w_len (by simp; done) ?_)) | (with_reducible (refine w_pow (by decide) (by decide) (by decide) ?_)) | fail); decreasing_trivial))
    refine ⟨by simp [isDc, stD, e3], ?_⟩
    (decreasing_trivial; repeat ((first | (with_reducible (refine w_len (by simp; done) ?_)) | (with_reducible (refine w_pow (by decide) (by decide) (by decide) ?_)) | fail); decreasing_trivial))
    refine w_anyT ?_
    (decreasing_trivial; repeat ((first | (with_reducible (refine w_len (by simp; done) ?_)) | (with_reducible (refine w_pow (by decide) (by decide) (by decide) ?_)) | fail); decreasing_trivial))
    refine ⟨_, ea, ?_⟩
    (decreasing_trivial; repeat ((first | (with_reducible (refine w_len (by simp; done) ?_)) | (with_reducible (refine w_pow (by decide) (by decide) (by decide) ?_)) | fail); decreasing_trivial))
    have ecut : cutA (AV.str a :: p.wd.map AV.str) (some 1) none = p.wd.map AV.str := cut_hi (xs := AV.str a :: p.wd.map AV.str) (i := 1) (by simp)
    rw [ecut]
    refine wp_dc (fun j acc σ => σ = τ ∧ acc = tb ((p.wd.take j).foldl addK []) ∧ j ≤ p.wd.length) ?_ ?_ FUEL 0 _ _ (by rw [List.length_map]; have := p.wd_len; unfold FUEL; omega) (by omega) ⟨rfl, rfl, by omega⟩
    · rintro acc σ ⟨rfl, rfl, _⟩
      rw [List.length_map, List.take_length]
      have e4 : (σ ++ [AO.dct (tb (p.wd.foldl addK []))])[μ.length]? = some (.dct (tb (keysI (is.take i)))) := by rw [List.getElem?_append_left hlt]; exact e3
      have e5 : (σ ++ [AO.dct (tb (p.wd.foldl addK []))])[σ.length]? = some (.dct (tb (p.wd.foldl addK []))) := by simp
      (decreasing_trivial; repeat ((first | (with_reducible (refine w_len (by simp; done) ?_)) | (with_reducible (refine w_pow (by decide) (by decide) (by decide) ?_)) | fail); decreasing_trivial))
      have l1 := foldK_len p.wd []
      have l2 := p.wd_len
      refine ⟨μ.length, _, σ.length, _, rfl, rfl, e4, e5, by omega, by rw [tb_len, tb_len]; have := hk i; simp at l1; omega, ?_⟩
      refine ⟨_, _, rfl, pre_set (pre_push pre) (Nat.le_refl _), ?_⟩
      rw [List.getElem?_set_self (List.getElem?_eq_some_iff.mp e4).1, tb_merge, foldK_foldK, keysI_take hpi]
    · rintro j y acc σ hy ⟨rfl, rfl, hj⟩
      rw [List.getElem?_map] at hy
      obtain ⟨x, hx, rfl⟩ := Option.map_eq_some_iff.mp hy
      refine ⟨_, rfl, ?_⟩
      (decreasing_trivial; repeat ((first | (with_reducible (refine w_len (by simp; done) ?_)) | (with_reducible (refine w_pow (by decide) (by decide) (by decide) ?_)) | fail); decreasing_trivial))
      refine ⟨?_, rfl, ?_, (List.getElem?_eq_some_iff.mp hx).1⟩
      · rw [tb_len]
        have := foldK_len (p.wd.take j) []
        have := p.wd_len
        have : (p.wd.take j).length ≤ p.wd.length := by rw [List.length_take]; omega
        simp only [List.length_nil] at *
        omega
      · rw [tb_put, List.take_add_one, hx, List.foldl_append]
        rfl
def NamesOfOk (f : Fn) : Prop := ∀ t : Tr, t.ok NM → t.dep ≤ 9 → t.ins.length ≤ 100000 → Pure1 f [t.v] (.tup ((sortS (keysI t.ins)).map AV.str))
theorem names_of_ok (T : Nat → Fn) (h1 : InstrsOk (T i20_instructions) 9) (h2 : WordsOk (T i21_words_of)) : NamesOfOk (fnR 1 1 (m27_names_of T)) := fun t k hd hz => Pure1.of rfl fun μ => by
  simp only [startA_s, List.map_cons, List.map_nil, List.length_cons, List.length_nil, Nat.reduceAdd, Nat.reduceSub, List.replicate_succ, List.replicate_zero, List.cons_append, List.nil_append]
  unfold m27_names_of
  (decreasing_trivial; repeat ((first | (with_reducible (refine w_len (by simp; done) ?_)) | (with_reducible (refine w_pow (by decide) (by decide) (by decide) ?_)) | fail); decreasing_trivial))
  refine (h1 NM t k hd hz μ).mono fun v σ ⟨e1, e2⟩ => ?_
  subst e1 e2
  (decreasing_trivial; repeat ((first | (with_reducible (refine w_len (by simp; done) ?_)) | (with_reducible (refine w_pow (by decide) (by decide) (by decide) ?_)) | fail); decreasing_trivial))
  refine (h2 t.ins (fun i hi => ⟨Tr.ins_leaf t i hi, Tr.ins_ok t k i hi⟩) hz σ).mono fun v σ ⟨e1, e2⟩ => ?_
  subst e1 e2
  exact ⟨rfl, by simpa [pure?] using pure_strs _, rfl⟩
def LWordsOk (f : Fn) : Prop := ∀ t : Tr, t.ok NM → t.dep ≤ 9 → t.ins.length ≤ 100000 → Pure1 f [t.v] (.lst ((sortS (keysI t.ins)).map AV.str))
theorem lwords_ok (T : Nat → Fn) (h1 : ListedOk (T i23_law_listed) 9) : LWordsOk (fnR 4 1 (m28_law_words T)) := fun t k hd hz => Pure1.of' rfl fun μ => by
  have hw : ∀ i ∈ t.ins, ∀ x ∈ i.wd, x ∈ NM := fun i hi => Tr.wd_ok (Tr.ins_leaf t i hi) (Tr.ins_ok t k i hi)
  have hk : ∀ j, (keysI (t.ins.take j)).length ≤ 10 := fun j => keysI_len fun i hi => hw i (List.mem_of_mem_take hi)
  simp only [startA_s, List.map_cons, List.map_nil, List.length_cons, List.length_nil, Nat.reduceAdd, Nat.reduceSub, List.replicate_succ, List.replicate_zero, List.cons_append, List.nil_append]
  unfold m28_law_words
  (decreasing_trivial; repeat ((first | (with_reducible (refine w_len (by simp; done) ?_)) | (with_reducible (refine w_pow (by decide) (by decide) (by decide) ?_)) | fail); decreasing_trivial))
  refine w_anyL ?_
  (decreasing_trivial; repeat ((first | (with_reducible (refine w_len (by simp; done) ?_)) | (with_reducible (refine w_pow (by decide) (by decide) (by decide) ?_)) | fail); decreasing_trivial))
  refine (h1 NM t k hd hz _).mono fun v σ ⟨e1, e2⟩ => ?_
  subst e1 e2
  refine ⟨_, rfl, ?_⟩
  refine wo_dat (fun i ρ τ => ∃ x2 x3, ρ = [some t.v, some (.loc μ.length), x2, x3] ∧ μ <+: τ ∧ τ[μ.length]? = some (.dct (tb (keysI (t.ins.take i))))) ?_ ?_ FUEL 0 _ _ (by rw [Tr.vs_len]; unfold FUEL; omega) (by omega) ⟨_, _, rfl, List.prefix_append _ _, by simp; rfl⟩
  · rintro ρ τ ⟨x2, x3, rfl, pre, e3⟩
    rw [Tr.vs_len, List.take_length] at e3
    (decreasing_trivial; repeat ((first | (with_reducible (refine w_len (by simp; done) ?_)) | (with_reducible (refine w_pow (by decide) (by decide) (by decide) ?_)) | fail); decreasing_trivial))
    refine w_sortD e3 (tb_keys _) (by have := hk t.ins.length; rw [List.take_length] at this; omega) ?_
    (decreasing_trivial; repeat ((first | (with_reducible (refine w_len (by simp; done) ?_)) | (with_reducible (refine w_pow (by decide) (by decide) (by decide) ?_)) | fail); decreasing_trivial))
    exact ⟨pre, by simpa [pure?] using pure_strs _, rfl⟩
  · rintro i v ρ τ hv ⟨x2, x3, rfl, pre, e3⟩
    rw [Tr.vs_map, List.getElem?_map] at hv
    obtain ⟨p, hpi, rfl⟩ := Option.map_eq_some_iff.mp hv
    have hm := List.mem_of_getElem? hpi
    obtain ⟨a, ea⟩ := Tr.wd_v (Tr.ins_leaf t p hm)
    refine ⟨_, rfl, ?_⟩
    (decreasing_trivial; repeat ((first | (with_reducible (refine w_len (by simp; done) ?_)) | (with_reducible (refine w_pow (by decide) (by decide) (by decide) ?_)) | fail); decreasing_trivial))
    refine w_anyT ?_
    (decreasing_trivial; repeat ((first | (with_reducible (refine w_len (by simp; done) ?_)) | (with_reducible (refine w_pow (by decide) (by decide) (by decide) ?_)) | fail); decreasing_trivial))
    refine ⟨_, ea, ?_⟩
    (decreasing_trivial; repeat ((first | (with_reducible (refine w_len (by simp; done) ?_)) | (with_reducible (refine w_pow (by decide) (by decide) (by decide) ?_)) | fail); decreasing_trivial))
    have ecut : cutA (AV.str a :: p.wd.map AV.str) (some 1) none = p.wd.map AV.str := cut_hi (xs := AV.str a :: p.wd.map AV.str) (i := 1) (by simp)
    rw [ecut]
    refine wo_dat (fun j ρ τ2 => ∃ x3, ρ = [some t.v, some (.loc μ.length), some p.v, x3] ∧ μ <+: τ2 ∧ τ2[μ.length]? = some (.dct (tb ((p.wd.take j).foldl addK (keysI (t.ins.take i))))) ∧ j ≤ p.wd.length) ?_ ?_ FUEL 0 _ _ (by rw [List.length_map]; have := p.wd_len; unfold FUEL; omega) (by omega) ⟨_, rfl, pre, e3, by omega⟩
    · rintro ρ τ2 ⟨x3, rfl, pre, e3, _⟩
      rw [List.length_map, List.take_length, ← keysI_take hpi] at e3
      exact ⟨_, _, rfl, pre, e3⟩
    · rintro j y ρ τ2 hy ⟨x3, rfl, pre, e3, hj⟩
      rw [List.getElem?_map] at hy
      obtain ⟨x, hx, rfl⟩ := Option.map_eq_some_iff.mp hy
      refine ⟨_, rfl, ?_⟩
      (decreasing_trivial; repeat ((first | (with_reducible (refine w_len (by simp; done) ?_)) | (with_reducible (refine w_pow (by decide) (by decide) (by decide) ?_)) | fail); decreasing_trivial))
      refine ⟨μ.length, _, .inr x, rfl, rfl, e3, ?_, _, rfl, pre_set pre (Nat.le_refl _), ?_, (List.getElem?_eq_some_iff.mp hx).1⟩
      · rw [tb_len]
        have := foldK_len (p.wd.take j) (keysI (t.ins.take i))
        have := p.wd_len
        have := hk i
        have : (p.wd.take j).length ≤ p.wd.length := by rw [List.length_take]; omega
        omega
      · rw [List.getElem?_set_self (List.getElem?_eq_some_iff.mp e3).1, tb_put, List.take_add_one, hx, List.foldl_append]
        rfl

mutual
def Tr.str : Tr → Bool
  | .seq ps => Tr.strs ps
  | .branch _ => false
  | .loop _ => false
  | _ => true
def Tr.strs : List Tr → Bool
  | [] => true
  | p :: ps => p.str && Tr.strs ps
end
theorem Tr.strs_all : ∀ ps : List Tr, Tr.strs ps = ps.all Tr.str
  | [] => rfl
  | p :: ps => by rw [List.all_cons, ← Tr.strs_all ps]; rfl
theorem bls_strs : ∀ ps : List Tr, blsOf (ps.map fun p => AV.bl p.str) = some (ps.map Tr.str)
  | [] => rfl
  | p :: ps => by simp only [List.map_cons, blsOf, bls_strs ps, Option.map_some]
def StraightOk (f : Fn) (d : Nat) : Prop := ∀ (N : List Str) (t : Tr), t.ok N → t.dep ≤ d → Pure1 f [t.v] (.bl t.str)
theorem Tr.str_parts {t : Tr} : t.str = ((match t with | .branch _ => false | .loop _ => false | _ => true) && t.parts.all Tr.str) := by
  cases t <;> simp [Tr.str, Tr.parts, Tr.strs_all]
theorem straight_ok (T : Nat → Fn) (hp : PartsOk (T i19_parts_of)) (d : Nat) (ih : StraightOk (T i22_is_straight) d) : StraightOk (fnR 2 1 (m22_is_straight T)) (d + 1) := fun N t k hd => Pure1.of rfl fun μ => by
  have go : ∀ a r b, t.v = .tup (.str a :: r) → (("branch" : Str) == a || ("loop" : Str) == a) = !b → t.str = (b && t.parts.all Tr.str) → wo (m22_is_straight T [some t.v, none] μ) { rt := fun v σ => σ = μ ∧ pure? v = true ∧ v = .bl t.str } := fun a r b e h1 h2 => by
    unfold m22_is_straight
    rw [h2, e]
    (decreasing_trivial; repeat ((first | (with_reducible (refine w_len (by simp; done) ?_)) | (with_reducible (refine w_pow (by decide) (by decide) (by decide) ?_)) | fail); decreasing_trivial))
    refine w_ixT atI_0 ?_
    (decreasing_trivial; repeat ((first | (with_reducible (refine w_len (by simp; done) ?_)) | (with_reducible (refine w_pow (by decide) (by decide) (by decide) ?_)) | fail); decreasing_trivial))
    refine gNotIn_2 h1 ?_
    refine ⟨_, rfl, ?_⟩
    cases b with
    | false =>
      rw [if_neg (by simp)]
      exact ⟨rfl, rfl, rfl⟩
    | true =>
      rw [if_pos (by simp)]
      (decreasing_trivial; repeat ((first | (with_reducible (refine w_len (by simp; done) ?_)) | (with_reducible (refine w_pow (by decide) (by decide) (by decide) ?_)) | fail); decreasing_trivial))
      rw [← e]
      refine w_anyT ?_
      (decreasing_trivial; repeat ((first | (with_reducible (refine w_len (by simp; done) ?_)) | (with_reducible (refine w_pow (by decide) (by decide) (by decide) ?_)) | fail); decreasing_trivial))
      refine (hp t _).mono fun v σ ⟨e1, e2⟩ => ?_
      subst e1 e2
      refine ⟨_, rfl, ?_⟩
      refine parts_lc (f := T i22_is_straight) (r := fun p => .bl p.str) (by have := (Tr.parts_ok k).2; omega) (fun p hp σ => ⟨_, rfl, ?_⟩) ?_
      · (decreasing_trivial; repeat ((first | (with_reducible (refine w_len (by simp; done) ?_)) | (with_reducible (refine w_pow (by decide) (by decide) (by decide) ?_)) | fail); decreasing_trivial))
        exact ih N p ((Tr.parts_ok k).1 p hp) (Tr.parts_dep hd p hp) σ
      · (decreasing_trivial; repeat ((first | (with_reducible (refine w_len (by simp; done) ?_)) | (with_reducible (refine w_pow (by decide) (by decide) (by decide) ?_)) | fail); decreasing_trivial))
        refine w_all (bls_strs t.parts) ?_
        refine ⟨rfl, rfl, ?_⟩
        simp [List.all_map]
  simp only [startA_s, List.map_cons, List.map_nil, List.length_cons, List.length_nil, Nat.reduceAdd, Nat.reduceSub, List.replicate_succ, List.replicate_zero, List.cons_append, List.nil_append]
  cases t with
  | new x => exact go _ _ true rfl (by decide) Tr.str_parts
  | use x => exact go _ _ true rfl (by decide) Tr.str_parts
  | drop x => exact go _ _ true rfl (by decide) Tr.str_parts
  | copy x y => exact go _ _ true rfl (by decide) Tr.str_parts
  | seq ps => exact go _ _ true rfl (by decide) Tr.str_parts
  | branch ps => exact go _ _ false rfl (by decide) Tr.str_parts
  | loop p => exact go _ _ false rfl (by decide) Tr.str_parts
theorem plain_ok (T : Nat → Fn) (d : Nat) (ih : StraightOk (T i24_law_is_plain) d) : StraightOk (fnR 2 1 (m24_law_is_plain T)) (d + 1) := fun N t k hd => Pure1.of rfl fun μ => by
  have no : ∀ a r, (("loop" : Str) == a || ("branch" : Str) == a) = true → wo (m24_law_is_plain T [some (.tup (.str a :: r)), none] μ) { rt := fun v σ => σ = μ ∧ pure? v = true ∧ v = .bl false } := fun a r h1 => by
    unfold m24_law_is_plain
    (decreasing_trivial; repeat ((first | (with_reducible (refine w_len (by simp; done) ?_)) | (with_reducible (refine w_pow (by decide) (by decide) (by decide) ?_)) | fail); decreasing_trivial))
    refine w_ixT atI_0 ?_
    (decreasing_trivial; repeat ((first | (with_reducible (refine w_len (by simp; done) ?_)) | (with_reducible (refine w_pow (by decide) (by decide) (by decide) ?_)) | fail); decreasing_trivial))
    refine gIn_2 h1 ?_
    (decreasing_trivial; repeat ((first | (with_reducible (refine w_len (by simp; done) ?_)) | (with_reducible (refine w_pow (by decide) (by decide) (by decide) ?_)) | fail); decreasing_trivial))
    rw [if_pos rfl]
    (decreasing_trivial; repeat ((first | (with_reducible (refine w_len (by simp; done) ?_)) | (with_reducible (refine w_pow (by decide) (by decide) (by decide) ?_)) | fail); decreasing_trivial))
    exact ⟨rfl, rfl, rfl⟩
  have leaf : ∀ a r, (("loop" : Str) == a || ("branch" : Str) == a) = false → (a == ("seq" : Str)) = false → wo (m24_law_is_plain T [some (.tup (.str a :: r)), none] μ) { rt := fun v σ => σ = μ ∧ pure? v = true ∧ v = .bl true } := fun a r h1 h2 => by
    unfold m24_law_is_plain
    (decreasing_trivial; repeat ((first | (with_reducible (refine w_len (by simp; done) ?_)) | (with_reducible (refine w_pow (by decide) (by decide) (by decide) ?_)) | fail); decreasing_trivial))
    refine w_ixT atI_0 ?_
    (decreasing_trivial; repeat ((first | (with_reducible (refine w_len (by simp; done) ?_)) | (with_reducible (refine w_pow (by decide) (by decide) (by decide) ?_)) | fail); decreasing_trivial))
    refine gIn_2 h1 ?_
    (decreasing_trivial; repeat ((first | (with_reducible (refine w_len (by simp; done) ?_)) | (with_reducible (refine w_pow (by decide) (by decide) (by decide) ?_)) | fail); decreasing_trivial))
    rw [if_neg (by simp)]
    (decreasing_trivial; repeat ((first | (with_reducible (refine w_len (by simp; done) ?_)) | (with_reducible (refine w_pow (by decide) (by decide) (by decide) ?_)) | fail); decreasing_trivial))
    refine w_ixT atI_0 ?_
    (decreasing_trivial; repeat ((first | (with_reducible (refine w_len (by simp; done) ?_)) | (with_reducible (refine w_pow (by decide) (by decide) (by decide) ?_)) | fail); decreasing_trivial))
    refine gNe_s h2 ?_
    refine ⟨_, rfl, ?_⟩
    rw [if_pos (by simp)]
    exact ⟨rfl, rfl, rfl⟩
  simp only [startA_s, List.map_cons, List.map_nil, List.length_cons, List.length_nil, Nat.reduceAdd, Nat.reduceSub, List.replicate_succ, List.replicate_zero, List.cons_append, List.nil_append]
  cases t with
  | new x => exact leaf _ _ (by decide) (by decide)
  | use x => exact leaf _ _ (by decide) (by decide)
  | drop x => exact leaf _ _ (by decide) (by decide)
  | copy x y => exact leaf _ _ (by decide) (by decide)
  | branch ps => exact no _ _ (by decide)
  | loop p => exact no _ _ (by decide)
  | seq ps =>
    unfold m24_law_is_plain
    simp only [Tr.v]
    (decreasing_trivial; repeat ((first | (with_reducible (refine w_len (by simp; done) ?_)) | (with_reducible (refine w_pow (by decide) (by decide) (by decide) ?_)) | fail); decreasing_trivial))
    refine w_ixT rfl ?_
    (decreasing_trivial; repeat ((first | (with_reducible (refine w_len (by simp; done) ?_)) | (with_reducible (refine w_pow (by decide) (by decide) (by decide) ?_)) | fail); decreasing_trivial))
    refine gIn_2 (r := false) (by decide) ?_
    (decreasing_trivial; repeat ((first | (with_reducible (refine w_len (by simp; done) ?_)) | (with_reducible (refine w_pow (by decide) (by decide) (by decide) ?_)) | fail); decreasing_trivial))
    rw [if_neg (by simp)]
    (decreasing_trivial; repeat ((first | (with_reducible (refine w_len (by simp; done) ?_)) | (with_reducible (refine w_pow (by decide) (by decide) (by decide) ?_)) | fail); decreasing_trivial))
    refine w_ixT rfl ?_
    (decreasing_trivial; repeat ((first | (with_reducible (refine w_len (by simp; done) ?_)) | (with_reducible (refine w_pow (by decide) (by decide) (by decide) ?_)) | fail); decreasing_trivial))
    refine gNe_s (b := true) (by decide) ?_
    refine ⟨_, rfl, ?_⟩
    rw [if_neg (by simp)]
    (decreasing_trivial; repeat ((first | (with_reducible (refine w_len (by simp; done) ?_)) | (with_reducible (refine w_pow (by decide) (by decide) (by decide) ?_)) | fail); decreasing_trivial))
    refine w_anyT ?_
    refine w_op ?_
    (decreasing_trivial; repeat ((first | (with_reducible (refine w_len (by simp; done) ?_)) | (with_reducible (refine w_pow (by decide) (by decide) (by decide) ?_)) | fail); decreasing_trivial))
    refine w_ixT rfl ?_
    refine ⟨_, rfl, ?_⟩
    refine parts_lc (f := T i24_law_is_plain) (r := fun p => .bl p.str) (by have := k.1; omega) (fun p hp σ => ⟨_, rfl, ?_⟩) ?_
    · (decreasing_trivial; repeat ((first | (with_reducible (refine w_len (by simp; done) ?_)) | (with_reducible (refine w_pow (by decide) (by decide) (by decide) ?_)) | fail); decreasing_trivial))
      exact ih N p (Tr.oks_iff.mp k.2 p hp) (Tr.parts_dep hd p hp) σ
    · (decreasing_trivial; repeat ((first | (with_reducible (refine w_len (by simp; done) ?_)) | (with_reducible (refine w_pow (by decide) (by decide) (by decide) ?_)) | fail); decreasing_trivial))
      refine w_all (bls_strs ps) ?_
      refine ⟨rfl, rfl, ?_⟩
      simp [List.all_map, Tr.str, Tr.strs_all]
end Lr

namespace Lr
open PySem PySem.Spec L2

def SS : List Str := (["a", "b", "copytx", "drop", "fq", "hijkmuvy", "longname", "new", "seq", "zz", "copy", "use", "branch", "loop", "", "A", "toolongname", "a1", "new a", "seq()", "abcdefgh", "abcdefghi", "aB", "a-", "z", "New", "c", "d", "e", "f", "g", "h", "i"] : List String).map Str.ofString
mutual

def sS : AV → Bool
  | .str x => SS.contains x
  | .tup xs => sSL xs
  | .lst xs => sSL xs
  | .dct kvs => sSD kvs
  | _ => true
def sSL : List AV → Bool
  | [] => true
  | x :: xs => sS x && sSL xs
def sSD : List (AV × AV) → Bool
  | [] => true
  | (x, y) :: xs => sS x && sS y && sSD xs
end
theorem sSL_iff : ∀ {xs : List AV}, sSL xs = true ↔ ∀ x ∈ xs, sS x = true
  | [] => by simp [sSL]
  | x :: xs => by simp only [sSL, Bool.and_eq_true, List.mem_cons, forall_eq_or_imp, sSL_iff (xs := xs)]
theorem sS_str {x : Str} (h : sS (.str x) = true) : x ∈ SS := by
  simp only [sS] at h
  exact List.contains_iff_mem.mp h
theorem SS_len : ∀ x ∈ SS, x.length ≤ 11 := by decide +kernel
theorem shL_iff : ∀ {xs : List AV}, shL xs = true ↔ ∀ x ∈ xs, sh x = true
  | [] => by simp [shL]
  | x :: xs => by simp only [shL, Bool.and_eq_true, List.mem_cons, forall_eq_or_imp, shL_iff (xs := xs)]

def Th (v : AV) : Prop := sh v = true ∧ sS v = true
theorem Th.tup {xs : List AV} : Th (.tup xs) ↔ ∀ x ∈ xs, Th x := by
  unfold Th
  simp only [sh, sS, shL_iff, sSL_iff]
  exact ⟨fun h x hx => ⟨h.1 x hx, h.2 x hx⟩, fun h => ⟨fun x hx => (h x hx).1, fun x hx => (h x hx).2⟩⟩
theorem Th.lst {xs : List AV} : Th (.lst xs) ↔ ∀ x ∈ xs, Th x := Th.tup
theorem Th.pure {v : AV} (h : Th v) : pure? v = true := sh_pure v h.1
theorem isi_str {v : AV} {μ : Store} {Q : AV → Store → Prop} (hv : sh v = true) (h1 : ∀ z, v = .str z → Q (.bl true) μ) (h2 : (∀ z, v ≠ .str z) → Q (.bl false) μ) : wp (gIsi [v, .ty "str"] μ) Q := by
  obtain ⟨k, ek, hk⟩ := kind_sh hv
  have em := kind_eq (μ := μ) (sh_pure v hv) ek
  cases v <;> first | (simp [sh] at hv; done) | cases ek
  case str.refl => exact w_isi em (by decide) (h1 _ rfl)
  all_goals exact w_isi em (by decide) (h2 fun _ e => nomatch e)
theorem w_inC {c : Nat} {z : Str} {μ : Store} {Q : AV → Store → Prop} (h : Q (.bl (decide (c ∈ z.cps.toList))) μ) : wp (gIn (.str ⟨#[c]⟩) (.str z) μ) Q := by
  unfold gIn
  have e : inB (.str ⟨#[c]⟩) (.str z) μ = some (decide (c ∈ z.cps.toList)) := by
    show (if (⟨#[c]⟩ : Str).length = 1 then some (decide ((#[c] : Array Nat).getD 0 0 ∈ z.cps.toList)) else none) = _
    rw [if_pos (show (⟨#[c]⟩ : Str).length = 1 from rfl)]
    rfl
  rw [e]
  exact h
theorem w_lenS {z : Str} {μ : Store} {Q : AV → Store → Prop} (hz : z.length ≤ 16777216) (h : Q (.int z.length) μ) : wp (gLen [.str z] μ) Q := by
  unfold gLen
  simp only [if_pos hz]
  exact h
theorem w_strI {ρ : Loc} {μ : Store} {QS : Src → Store → Prop} {r : AE} (h : wp (r ρ μ) fun x μ1 => ∃ z, x = .str z ∧ QS (.dat (signsA z)) μ1) : wp (iStrS r ρ μ) QS := by
  unfold iStrS
  rw [wp_bind]
  refine h.mono fun x μ1 h => ?_
  obtain ⟨z, rfl, h⟩ := h
  exact h
def letB (c : Nat) : Bool := decide (c ∈ ("abcdefghijklmnopqrstuvwxyz" : Str).cps.toList)
def nameB (v : AV) : Bool := match v with
  | .str z => decide (1 ≤ z.length) && decide (z.length ≤ 8) && z.cps.toList.all letB
  | _ => false
def NameOk (f : Fn) : Prop := ∀ v, Th v → Pure1 f [v] (.bl (nameB v))
theorem bls_map2 {γ : Type} (f : γ → Bool) : ∀ xs : List γ, blsOf (xs.map fun x => AV.bl (f x)) = some (xs.map f)
  | [] => rfl
  | x :: xs => by simp only [List.map_cons, blsOf, bls_map2 f xs, Option.map_some]
theorem signs_lc {z : Str} {g : AG} {te : AE} {f : Nat → Bool} {ρ : Loc} {μ : Store} {QL : List AV → Store → Prop} (hz : z.length ≤ 100) (h : ∀ (c : Nat) (σ : Store), ∃ ρ1, g (.str ⟨#[c]⟩) ρ = some ρ1 ∧ wp (te ρ1 σ) fun v τ => v = .bl (f c) ∧ τ = σ) (hq : QL (z.cps.toList.map fun c => .bl (f c)) μ) : wp (lcF g tTrue te (.dat (signsA z)) FUEL 0 ρ [] μ) QL := by
  have hl : (signsA z).length = z.cps.toList.length := List.length_map ..
  have hl2 : z.cps.toList.length = z.length := rfl
  refine wp_lc (fun i acc σ => σ = μ ∧ acc = (z.cps.toList.take i).map (fun c => AV.bl (f c)) ∧ i ≤ z.cps.toList.length) (by omega) ?_ ?_ ?_ FUEL 0 _ _ (by unfold FUEL; omega) (by omega) ⟨rfl, by simp, by omega⟩
  · rintro i acc σ ⟨_, rfl, hi⟩
    rw [List.length_map, List.length_take, Nat.min_eq_left hi]
  · rintro acc σ ⟨rfl, rfl, _⟩
    rw [hl, List.take_length]
    exact hq
  · rintro i v acc σ hv ⟨rfl, rfl, hi⟩
    unfold signsA at hv
    rw [List.getElem?_map] at hv
    obtain ⟨c, hc, rfl⟩ := Option.map_eq_some_iff.mp hv
    obtain ⟨ρ1, eg, hw⟩ := h c σ
    refine ⟨ρ1, eg, hw.mono fun v τ ⟨e1, e2⟩ => ?_⟩
    subst e1 e2
    refine ⟨rfl, ?_, (List.getElem?_eq_some_iff.mp hc).1⟩
    rw [List.take_add_one, hc, List.map_append]
    rfl
theorem name_ok (T : Nat → Fn) : NameOk (fnR 2 1 (m1_is_name T)) := fun v hv => Pure1.of rfl fun μ => by
  simp only [startA_s, List.map_cons, List.map_nil, List.length_cons, List.length_nil, Nat.reduceAdd, Nat.reduceSub, List.replicate_succ, List.replicate_zero, List.cons_append, List.nil_append]
  unfold m1_is_name
  (decreasing_trivial; repeat ((first | (with_reducible (refine w_len (by simp; done) ?_)) | (with_reducible (refine w_pow (by decide) (by decide) (by decide) ?_)) | fail); decreasing_trivial))
  refine isi_str hv.1 (fun z e => ?_) (fun e => ?_)
  · subst e
    have hz := SS_len z (sS_str hv.2)
    refine ⟨_, rfl, ?_⟩
    rw [if_neg (by simp)]
    (decreasing_trivial; repeat ((first | (with_reducible (refine w_len (by simp; done) ?_)) | (with_reducible (refine w_pow (by decide) (by decide) (by decide) ?_)) | fail); decreasing_trivial))
    refine w_lenS (by omega) ?_
    (decreasing_trivial; repeat ((first | (with_reducible (refine w_len (by simp; done) ?_)) | (with_reducible (refine w_pow (by decide) (by decide) (by decide) ?_)) | fail); decreasing_trivial))
    refine ite_k (fun h => ?_) (fun h => ?_)
    · have h := of_decide_eq_true h
      (decreasing_trivial; repeat ((first | (with_reducible (refine w_len (by simp; done) ?_)) | (with_reducible (refine w_pow (by decide) (by decide) (by decide) ?_)) | fail); decreasing_trivial))
      refine ite_k (fun h2 => ?_) (fun h2 => ?_)
      · have h2 : ¬ z.length ≤ 8 := by
          have : decide ((z.length : Int) ≤ 8) = false := by simpa using h2
          have := of_decide_eq_false this
          omega
        (decreasing_trivial; repeat ((first | (with_reducible (refine w_len (by simp; done) ?_)) | (with_reducible (refine w_pow (by decide) (by decide) (by decide) ?_)) | fail); decreasing_trivial))
        exact ⟨rfl, rfl, by simp [nameB, h2]⟩
      · have h2 : z.length ≤ 8 := by
          have : decide ((z.length : Int) ≤ 8) = true := by simpa using h2
          have := of_decide_eq_true this
          omega
        have h1 : 1 ≤ z.length := by omega
        (decreasing_trivial; repeat ((first | (with_reducible (refine w_len (by simp; done) ?_)) | (with_reducible (refine w_pow (by decide) (by decide) (by decide) ?_)) | fail); decreasing_trivial))
        refine w_strI ?_
        (decreasing_trivial; repeat ((first | (with_reducible (refine w_len (by simp; done) ?_)) | (with_reducible (refine w_pow (by decide) (by decide) (by decide) ?_)) | fail); decreasing_trivial))
        refine signs_lc (f := letB) (by omega) (fun c σ => ⟨_, rfl, ?_⟩) ?_
        · (decreasing_trivial; repeat ((first | (with_reducible (refine w_len (by simp; done) ?_)) | (with_reducible (refine w_pow (by decide) (by decide) (by decide) ?_)) | fail); decreasing_trivial))
          exact w_inC ⟨rfl, rfl⟩
        · refine w_all (bls_map2 letB _) ?_
          refine ⟨rfl, rfl, ?_⟩
          simp [nameB, h1, h2, List.all_map]
    · have h := of_decide_eq_false h
      refine ⟨_, rfl, ?_⟩
      rw [if_pos (by simp)]
      (decreasing_trivial; repeat ((first | (with_reducible (refine w_len (by simp; done) ?_)) | (with_reducible (refine w_pow (by decide) (by decide) (by decide) ?_)) | fail); decreasing_trivial))
      exact ⟨rfl, rfl, by simp [nameB, show ¬ 1 ≤ z.length by omega]⟩
  · refine ⟨_, rfl, ?_⟩
    rw [if_pos (by simp)]
    (decreasing_trivial; repeat ((first | (with_reducible (refine w_len (by simp; done) ?_)) | (with_reducible (refine w_pow (by decide) (by decide) (by decide) ?_)) | fail); decreasing_trivial))
    refine ⟨rfl, rfl, ?_⟩
    cases v <;> first | rfl | exact absurd rfl (e _)
theorem lname_ok (T : Nat → Fn) : NameOk (fnR 2 1 (m10_law_is_name T)) := fun v hv => Pure1.of rfl fun μ => by
  simp only [startA_s, List.map_cons, List.map_nil, List.length_cons, List.length_nil, Nat.reduceAdd, Nat.reduceSub, List.replicate_succ, List.replicate_zero, List.cons_append, List.nil_append]
  unfold m10_law_is_name
  (decreasing_trivial; repeat ((first | (with_reducible (refine w_len (by simp; done) ?_)) | (with_reducible (refine w_pow (by decide) (by decide) (by decide) ?_)) | fail); decreasing_trivial))
  refine isi_str hv.1 (fun z e => ?_) (fun e => ?_)
  · subst e
    have hz := SS_len z (sS_str hv.2)
    refine ⟨_, rfl, ?_⟩
    rw [if_neg (by simp)]
    (decreasing_trivial; repeat ((first | (with_reducible (refine w_len (by simp; done) ?_)) | (with_reducible (refine w_pow (by decide) (by decide) (by decide) ?_)) | fail); decreasing_trivial))
    refine w_lenS (by omega) ?_
    (decreasing_trivial; repeat ((first | (with_reducible (refine w_len (by simp; done) ?_)) | (with_reducible (refine w_pow (by decide) (by decide) (by decide) ?_)) | fail); decreasing_trivial))
    refine ite_k (fun h => ?_) (fun h => ?_)
    · have h := of_decide_eq_true h
      (decreasing_trivial; repeat ((first | (with_reducible (refine w_len (by simp; done) ?_)) | (with_reducible (refine w_pow (by decide) (by decide) (by decide) ?_)) | fail); decreasing_trivial))
      refine ite_k (fun h2 => ?_) (fun h2 => ?_)
      · have h2 : ¬ z.length ≤ 8 := by
          have : decide ((z.length : Int) < 9) = false := by simpa using h2
          have := of_decide_eq_false this
          omega
        (decreasing_trivial; repeat ((first | (with_reducible (refine w_len (by simp; done) ?_)) | (with_reducible (refine w_pow (by decide) (by decide) (by decide) ?_)) | fail); decreasing_trivial))
        exact ⟨rfl, rfl, by simp [nameB, h2]⟩
      · have h2 : z.length ≤ 8 := by
          have : decide ((z.length : Int) < 9) = true := by simpa using h2
          have := of_decide_eq_true this
          omega
        have h1 : 1 ≤ z.length := by omega
        (decreasing_trivial; repeat ((first | (with_reducible (refine w_len (by simp; done) ?_)) | (with_reducible (refine w_pow (by decide) (by decide) (by decide) ?_)) | fail); decreasing_trivial))
        refine w_strI ?_
        (decreasing_trivial; repeat ((first | (with_reducible (refine w_len (by simp; done) ?_)) | (with_reducible (refine w_pow (by decide) (by decide) (by decide) ?_)) | fail); decreasing_trivial))
        refine signs_lc (f := letB) (by omega) (fun c σ => ⟨_, rfl, ?_⟩) ?_
        · (decreasing_trivial; repeat ((first | (with_reducible (refine w_len (by simp; done) ?_)) | (with_reducible (refine w_pow (by decide) (by decide) (by decide) ?_)) | fail); decreasing_trivial))
          exact w_inC ⟨rfl, rfl⟩
        · refine w_all (bls_map2 letB _) ?_
          refine ⟨rfl, rfl, ?_⟩
          simp [nameB, h1, h2, List.all_map]
    · have h := of_decide_eq_false h
      refine ⟨_, rfl, ?_⟩
      rw [if_pos (by simp)]
      (decreasing_trivial; repeat ((first | (with_reducible (refine w_len (by simp; done) ?_)) | (with_reducible (refine w_pow (by decide) (by decide) (by decide) ?_)) | fail); decreasing_trivial))
      exact ⟨rfl, rfl, by simp [nameB, show ¬ 1 ≤ z.length by omega]⟩
  · refine ⟨_, rfl, ?_⟩
    rw [if_pos (by simp)]
    (decreasing_trivial; repeat ((first | (with_reducible (refine w_len (by simp; done) ?_)) | (with_reducible (refine w_pow (by decide) (by decide) (by decide) ?_)) | fail); decreasing_trivial))
    refine ⟨rfl, rfl, ?_⟩
    cases v <;> first | rfl | exact absurd rfl (e _)

def oneB (v : AV) : Bool := match v with
  | .tup (.str a :: r) => (if a == ("copy" : Str) then decide (r.length = 2) else (a == ("new" : Str) || a == ("use" : Str) || a == ("drop" : Str)) && decide (r.length = 1)) && r.all nameB
  | _ => false
def OneOk (f : Fn) : Prop := ∀ v, Th v → (∀ xs, v = .tup xs → xs.length ≤ 100000) → Pure1 f [v] (.bl (oneB v))

theorem all_lc {xs : List AV} {g : AG} {te : AE} {f : AV → Bool} {ρ : Loc} {μ : Store} {QL : List AV → Store → Prop} (hz : xs.length ≤ 100000) (h : ∀ (x : AV) (σ : Store), x ∈ xs → ∃ ρ1, g x ρ = some ρ1 ∧ wp (te ρ1 σ) fun v τ => v = .bl (f x) ∧ τ = σ) (hq : QL (xs.map fun c => .bl (f c)) μ) : wp (lcF g tTrue te (.dat xs) FUEL 0 ρ [] μ) QL := by
  refine wp_lc (fun i acc σ => σ = μ ∧ acc = (xs.take i).map (fun c => AV.bl (f c)) ∧ i ≤ xs.length) (by omega) ?_ ?_ ?_ FUEL 0 _ _ (by unfold FUEL; omega) (by omega) ⟨rfl, by simp, by omega⟩
  · rintro i acc σ ⟨_, rfl, hi⟩
    rw [List.length_map, List.length_take, Nat.min_eq_left hi]
  · rintro acc σ ⟨rfl, rfl, _⟩
    rw [List.take_length]
    exact hq
  · rintro i v acc σ hv ⟨rfl, rfl, hi⟩
    obtain ⟨ρ1, eg, hw⟩ := h v σ (List.mem_of_getElem? hv)
    refine ⟨ρ1, eg, hw.mono fun v τ ⟨e1, e2⟩ => ?_⟩
    subst e1 e2
    refine ⟨rfl, ?_, (List.getElem?_eq_some_iff.mp hv).1⟩
    rw [List.take_add_one, hv, List.map_append]
    rfl
theorem in_4 {μ : Store} {x a b c d : Str} : inB (.str x) (.tup [.str a, .str b, .str c, .str d]) μ = some (a == x || (b == x || (c == x || d == x))) := by
  simp [inB, seqOf, isD, isDL, dep, anyEq, eqv]
theorem gNotIn_4 {μ : Store} {Q : AV → Store → Prop} {x a b c d : Str} (h : Q (.bl (!(a == x || (b == x || (c == x || d == x))))) μ) : wp (gNotIn (.str x) (.tup [.str a, .str b, .str c, .str d]) μ) Q := by
  unfold gNotIn
  rw [in_4]
  exact h
theorem gIn_3 {μ : Store} {Q : AV → Store → Prop} {x a b c : Str} (h : Q (.bl (a == x || (b == x || c == x))) μ) : wp (gIn (.str x) (.tup [.str a, .str b, .str c]) μ) Q := by
  unfold gIn
  rw [in_3]
  exact h
theorem eq_nil_t {xs : List AV} {μ : Store} {Q : AV → Store → Prop} (h : Q (.bl xs.isEmpty) μ) : wp (gEq (.tup xs) (.tup []) μ) Q :=
  w_gEq (by cases xs <;> simp [eqB, lsOf, eqv, eqvL]) (by simp [depM, lsOf, dep, depL]) h
theorem sbeq {a b : Str} : (a == b) = (b == a) := by
  rw [Bool.eq_iff_iff]
  simp only [beq_iff_eq]
  exact eq_comm
theorem cut_tl {a : AV} {r : List AV} : cutA (a :: r) (some 1) none = r := cut_hi (xs := a :: r) (i := 1) (by simp)
theorem one_ok (T : Nat → Fn) (hn : NameOk (T i1_is_name)) : OneOk (fnR 2 1 (m420_is_instruction T)) := fun v hv hl => Pure1.of rfl fun μ => by
  simp only [startA_s, List.map_cons, List.map_nil, List.length_cons, List.length_nil, Nat.reduceAdd, Nat.reduceSub, List.replicate_succ, List.replicate_zero, List.cons_append, List.nil_append]
  unfold m420_is_instruction
  have no : oneB v = false → ∀ D : Kt, (∀ v' σ, (σ = μ ∧ pure? v' = true ∧ v' = .bl (oneB v)) → D.rt v' σ) → wo (sRet (eC (.bl false)) [some v, none] μ) D := fun h D hD => by
    (decreasing_trivial; repeat ((first | (with_reducible (refine w_len (by simp; done) ?_)) | (with_reducible (refine w_pow (by decide) (by decide) (by decide) ?_)) | fail); decreasing_trivial))
    exact hD _ _ ⟨rfl, rfl, by rw [h]⟩
  refine o_seq2 (fun ρ1 σ => σ = μ ∧ ∃ a r, v = .tup (.str a :: r) ∧ ρ1 = [some v, none]) ?_ ?_
  · (decreasing_trivial; repeat ((first | (with_reducible (refine w_len (by simp; done) ?_)) | (with_reducible (refine w_pow (by decide) (by decide) (by decide) ?_)) | fail); decreasing_trivial))
    refine isi_tup hv.1 (fun xs e => ?_) (fun e => ?_)
    · subst e
      refine ⟨_, rfl, ?_⟩
      rw [if_neg (by simp)]
      (decreasing_trivial; repeat ((first | (with_reducible (refine w_len (by simp; done) ?_)) | (with_reducible (refine w_pow (by decide) (by decide) (by decide) ?_)) | fail); decreasing_trivial))
      refine eq_nil_t ?_
      refine ⟨_, rfl, ?_⟩
      cases xs with
      | nil =>
        rw [if_pos (by simp)]
        exact no rfl _ fun v σ h => h
      | cons x r =>
        rw [if_neg (by simp)]
        (decreasing_trivial; repeat ((first | (with_reducible (refine w_len (by simp; done) ?_)) | (with_reducible (refine w_pow (by decide) (by decide) (by decide) ?_)) | fail); decreasing_trivial))
        refine w_ixT atI_0 ?_
        (decreasing_trivial; repeat ((first | (with_reducible (refine w_len (by simp; done) ?_)) | (with_reducible (refine w_pow (by decide) (by decide) (by decide) ?_)) | fail); decreasing_trivial))
        refine isi_str ((Th.tup.mp hv) x List.mem_cons_self).1 (fun z e => ?_) (fun e => ?_)
        · subst e
          refine ⟨_, rfl, ?_⟩
          rw [if_neg (by simp)]
          (decreasing_trivial; repeat ((first | (with_reducible (refine w_len (by simp; done) ?_)) | (with_reducible (refine w_pow (by decide) (by decide) (by decide) ?_)) | fail); decreasing_trivial))
          exact ⟨rfl, z, r, rfl, rfl⟩
        · refine ⟨_, rfl, ?_⟩
          rw [if_pos (by simp)]
          refine no ?_ _ fun v σ h => h
          cases x <;> first | rfl | exact absurd rfl (e _)
    · refine ⟨_, rfl, ?_⟩
      rw [if_pos (by simp)]
      refine no ?_ _ fun v σ h => h
      cases v <;> first | rfl | exact absurd rfl (e _)
  · rintro ρ1 σ ⟨rfl, a, r, rfl, rfl⟩
    have hr := hl _ rfl
    rw [List.length_cons] at hr
    refine o_seq2 (fun ρ1 τ => τ = σ ∧ (if a == ("copy" : Str) then decide (r.length = 2) else (a == ("new" : Str) || a == ("use" : Str) || a == ("drop" : Str)) && decide (r.length = 1)) = true ∧ ρ1 = [some (.tup (.str a :: r)), none]) ?_ ?_
    · (decreasing_trivial; repeat ((first | (with_reducible (refine w_len (by simp; done) ?_)) | (with_reducible (refine w_pow (by decide) (by decide) (by decide) ?_)) | fail); decreasing_trivial))
      refine w_ixT atI_0 ?_
      (decreasing_trivial; repeat ((first | (with_reducible (refine w_len (by simp; done) ?_)) | (with_reducible (refine w_pow (by decide) (by decide) (by decide) ?_)) | fail); decreasing_trivial))
      refine gNotIn_4 ?_
      refine ⟨_, rfl, ?_⟩
      rw [sbeq (a := "new"), sbeq (a := "copy"), sbeq (a := "use"), sbeq (a := "drop")]
      refine ite_k (fun h => ?_) (fun h => ?_)
      · refine no ?_ _ fun v σ h => h
        simp only [oneB]
        cases h1 : (a == ("copy" : Str)) <;> cases h2 : (a == ("new" : Str)) <;> cases h3 : (a == ("use" : Str)) <;> cases h4 : (a == ("drop" : Str)) <;> simp [h1, h2, h3, h4] at h ⊢
      · (decreasing_trivial; repeat ((first | (with_reducible (refine w_len (by simp; done) ?_)) | (with_reducible (refine w_pow (by decide) (by decide) (by decide) ?_)) | fail); decreasing_trivial))
        refine w_ixT atI_0 ?_
        (decreasing_trivial; repeat ((first | (with_reducible (refine w_len (by simp; done) ?_)) | (with_reducible (refine w_pow (by decide) (by decide) (by decide) ?_)) | fail); decreasing_trivial))
        refine gEq_s rfl ?_
        (decreasing_trivial; repeat ((first | (with_reducible (refine w_len (by simp; done) ?_)) | (with_reducible (refine w_pow (by decide) (by decide) (by decide) ?_)) | fail); decreasing_trivial))
        refine ite_k (fun h1 => ?_) (fun h1 => ?_)
        · (decreasing_trivial; repeat ((first | (with_reducible (refine w_len (by simp; done) ?_)) | (with_reducible (refine w_pow (by decide) (by decide) (by decide) ?_)) | fail); decreasing_trivial))
          refine gNe_i ?_
          refine ⟨_, rfl, ?_⟩
          simp only [h1, if_true]
          refine ite_k (fun h2 => ?_) (fun h2 => ?_)
          · refine no ?_ _ fun v σ h => h
            simp only [oneB, h1, if_true]
            rw [decide_eq_false (fun z => by simp [z] at h2), Bool.false_and]
          · (decreasing_trivial; repeat ((first | (with_reducible (refine w_len (by simp; done) ?_)) | (with_reducible (refine w_pow (by decide) (by decide) (by decide) ?_)) | fail); decreasing_trivial))
            refine ⟨rfl, decide_eq_true ?_, rfl⟩
            have : ((((AV.str a :: r).length : Nat) : Int) == 3) = true := by simpa using h2
            have := eq_of_beq this
            simp only [List.length_cons] at this
            omega
        · (decreasing_trivial; repeat ((first | (with_reducible (refine w_len (by simp; done) ?_)) | (with_reducible (refine w_pow (by decide) (by decide) (by decide) ?_)) | fail); decreasing_trivial))
          refine gNe_i ?_
          refine ⟨_, rfl, ?_⟩
          simp only [h1, Bool.false_eq_true, if_false]
          have hk : (a == ("new" : Str) || a == ("use" : Str) || a == ("drop" : Str)) = true := by
            cases h2 : (a == ("new" : Str)) <;> cases h3 : (a == ("use" : Str)) <;> cases h4 : (a == ("drop" : Str)) <;> simp [h1, h2, h3, h4] at h ⊢
          refine ite_k (fun h2 => ?_) (fun h2 => ?_)
          · refine no ?_ _ fun v σ h => h
            simp only [oneB, h1, Bool.false_eq_true, if_false]
            rw [decide_eq_false (fun z => by simp [z] at h2), Bool.and_false, Bool.false_and]
          · (decreasing_trivial; repeat ((first | (with_reducible (refine w_len (by simp; done) ?_)) | (with_reducible (refine w_pow (by decide) (by decide) (by decide) ?_)) | fail); decreasing_trivial))
            refine ⟨rfl, ?_, rfl⟩
            have : ((((AV.str a :: r).length : Nat) : Int) == 2) = true := by simpa using h2
            have := eq_of_beq this
            simp only [List.length_cons] at this
            rw [hk, decide_eq_true (show r.length = 1 by omega)]
            rfl
    · rintro ρ2 τ ⟨rfl, hc, rfl⟩
      (decreasing_trivial; repeat ((first | (with_reducible (refine w_len (by simp; done) ?_)) | (with_reducible (refine w_pow (by decide) (by decide) (by decide) ?_)) | fail); decreasing_trivial))
      refine w_anyT ?_
      (decreasing_trivial; repeat ((first | (with_reducible (refine w_len (by simp; done) ?_)) | (with_reducible (refine w_pow (by decide) (by decide) (by decide) ?_)) | fail); decreasing_trivial))
      rw [cut_tl]
      refine all_lc (f := nameB) (by omega) (fun x σ hx => ⟨_, rfl, ?_⟩) ?_
      · (decreasing_trivial; repeat ((first | (with_reducible (refine w_len (by simp; done) ?_)) | (with_reducible (refine w_pow (by decide) (by decide) (by decide) ?_)) | fail); decreasing_trivial))
        exact hn x ((Th.tup.mp hv) x (List.mem_cons_of_mem _ hx)) σ
      · refine w_all (bls_map2 nameB r) ?_
        refine ⟨rfl, rfl, ?_⟩
        simp only [oneB, hc, Bool.true_and, List.all_map]
        rfl
end Lr

namespace Lr
open PySem PySem.Spec L2
theorem lone_ok (T : Nat → Fn) (hn : NameOk (T i10_law_is_name)) : OneOk (fnR 2 1 (m11_law_is_one T)) := fun v hv hl => Pure1.of rfl fun μ => by
  simp only [startA_s, List.map_cons, List.map_nil, List.length_cons, List.length_nil, Nat.reduceAdd, Nat.reduceSub, List.replicate_succ, List.replicate_zero, List.cons_append, List.nil_append]
  unfold m11_law_is_one
  have no : oneB v = false → ∀ D : Kt, (∀ v' σ, (σ = μ ∧ pure? v' = true ∧ v' = .bl (oneB v)) → D.rt v' σ) → wo (sRet (eC (.bl false)) [some v, none] μ) D := fun h D hD => by
    (decreasing_trivial; repeat ((first | (with_reducible (refine w_len (by simp; done) ?_)) | (with_reducible (refine w_pow (by decide) (by decide) (by decide) ?_)) | fail); decreasing_trivial))
    exact hD _ _ ⟨rfl, rfl, by rw [h]⟩
  refine o_seq2 (fun ρ1 σ => σ = μ ∧ ∃ a r, v = .tup (.str a :: r) ∧ ρ1 = [some v, none]) ?_ ?_
  · (decreasing_trivial; repeat ((first | (with_reducible (refine w_len (by simp; done) ?_)) | (with_reducible (refine w_pow (by decide) (by decide) (by decide) ?_)) | fail); decreasing_trivial))
    refine isi_tup hv.1 (fun xs e => ?_) (fun e => ?_)
    · subst e
      refine ⟨_, rfl, ?_⟩
      rw [if_neg (by simp)]
      (decreasing_trivial; repeat ((first | (with_reducible (refine w_len (by simp; done) ?_)) | (with_reducible (refine w_pow (by decide) (by decide) (by decide) ?_)) | fail); decreasing_trivial))
      refine ite_k (fun h => ?_) (fun h => ?_)
      · have h := of_decide_eq_true h
        refine no ?_ _ fun v σ h => h
        cases xs with
        | nil => rfl
        | cons x r =>
          cases r with
          | nil =>
            cases x <;> first | rfl | skip
            simp [oneB]
          | cons y r =>
            simp only [List.length_cons] at h
            omega
      · have h := of_decide_eq_false h
        cases xs with
        | nil => simp at h
        | cons x r =>
          (decreasing_trivial; repeat ((first | (with_reducible (refine w_len (by simp; done) ?_)) | (with_reducible (refine w_pow (by decide) (by decide) (by decide) ?_)) | fail); decreasing_trivial))
          refine w_ixT atI_0 ?_
          (decreasing_trivial; repeat ((first | (with_reducible (refine w_len (by simp; done) ?_)) | (with_reducible (refine w_pow (by decide) (by decide) (by decide) ?_)) | fail); decreasing_trivial))
          refine isi_str ((Th.tup.mp hv) x List.mem_cons_self).1 (fun z e => ?_) (fun e => ?_)
          · subst e
            refine ⟨_, rfl, ?_⟩
            rw [if_neg (by simp)]
            (decreasing_trivial; repeat ((first | (with_reducible (refine w_len (by simp; done) ?_)) | (with_reducible (refine w_pow (by decide) (by decide) (by decide) ?_)) | fail); decreasing_trivial))
            exact ⟨rfl, z, r, rfl, rfl⟩
          · refine ⟨_, rfl, ?_⟩
            rw [if_pos (by simp)]
            refine no ?_ _ fun v σ h => h
            cases x <;> first | rfl | exact absurd rfl (e _)
    · refine ⟨_, rfl, ?_⟩
      rw [if_pos (by simp)]
      refine no ?_ _ fun v σ h => h
      cases v <;> first | rfl | exact absurd rfl (e _)
  · rintro ρ1 σ ⟨rfl, a, r, rfl, rfl⟩
    have hr := hl _ rfl
    rw [List.length_cons] at hr
    refine o_seq2 (fun ρ1 τ => τ = σ ∧ r.all nameB = true ∧ ρ1 = [some (.tup (.str a :: r)), none]) ?_ ?_
    · (decreasing_trivial; repeat ((first | (with_reducible (refine w_len (by simp; done) ?_)) | (with_reducible (refine w_pow (by decide) (by decide) (by decide) ?_)) | fail); decreasing_trivial))
      refine w_anyT ?_
      (decreasing_trivial; repeat ((first | (with_reducible (refine w_len (by simp; done) ?_)) | (with_reducible (refine w_pow (by decide) (by decide) (by decide) ?_)) | fail); decreasing_trivial))
      rw [cut_tl]
      refine all_lc (f := nameB) (by omega) (fun x σ hx => ⟨_, rfl, ?_⟩) ?_
      · (decreasing_trivial; repeat ((first | (with_reducible (refine w_len (by simp; done) ?_)) | (with_reducible (refine w_pow (by decide) (by decide) (by decide) ?_)) | fail); decreasing_trivial))
        exact hn x ((Th.tup.mp hv) x (List.mem_cons_of_mem _ hx)) σ
      · refine w_all (bls_map2 nameB r) ?_
        refine ⟨_, rfl, ?_⟩
        have e : ((r.map nameB).all _root_.id) = r.all nameB := by rw [List.all_map]; rfl
        rw [e]
        refine ite_k (fun h => ?_) (fun h => ?_)
        · have h : r.all nameB = false := by simpa using h
          refine no ?_ _ fun v σ h => h
          simp only [oneB, h, Bool.and_false]
        · have h : r.all nameB = true := by simpa using h
          (decreasing_trivial; repeat ((first | (with_reducible (refine w_len (by simp; done) ?_)) | (with_reducible (refine w_pow (by decide) (by decide) (by decide) ?_)) | fail); decreasing_trivial))
          exact ⟨rfl, h, rfl⟩
    · rintro ρ2 τ ⟨rfl, hc, rfl⟩
      (decreasing_trivial; repeat ((first | (with_reducible (refine w_len (by simp; done) ?_)) | (with_reducible (refine w_pow (by decide) (by decide) (by decide) ?_)) | fail); decreasing_trivial))
      refine w_ixT atI_0 ?_
      (decreasing_trivial; repeat ((first | (with_reducible (refine w_len (by simp; done) ?_)) | (with_reducible (refine w_pow (by decide) (by decide) (by decide) ?_)) | fail); decreasing_trivial))
      refine gEq_s rfl ?_
      (decreasing_trivial; repeat ((first | (with_reducible (refine w_len (by simp; done) ?_)) | (with_reducible (refine w_pow (by decide) (by decide) (by decide) ?_)) | fail); decreasing_trivial))
      refine ite_k (fun h1 => ?_) (fun h1 => ?_)
      · (decreasing_trivial; repeat ((first | (with_reducible (refine w_len (by simp; done) ?_)) | (with_reducible (refine w_pow (by decide) (by decide) (by decide) ?_)) | fail); decreasing_trivial))
        refine gEq_i ?_
        refine ⟨rfl, rfl, ?_⟩
        simp only [oneB, h1, if_true, hc, Bool.and_true, List.length_cons]
        congr 1
        rw [Bool.eq_iff_iff]
        simp only [beq_iff_eq, decide_eq_true_eq]
        omega
      · (decreasing_trivial; repeat ((first | (with_reducible (refine w_len (by simp; done) ?_)) | (with_reducible (refine w_pow (by decide) (by decide) (by decide) ?_)) | fail); decreasing_trivial))
        refine gEq_i ?_
        refine ⟨_, rfl, ?_⟩
        have e0 : oneB (.tup (.str a :: r)) = ((a == ("new" : Str) || a == ("use" : Str) || a == ("drop" : Str)) && decide (r.length = 1)) := by simp only [oneB, h1, Bool.false_eq_true, if_false, hc, Bool.and_true]
        rw [e0]
        refine ite_k (fun h2 => ?_) (fun h2 => ?_)
        · have h2 := eq_of_beq h2
          simp only [List.length_cons] at h2
          (decreasing_trivial; repeat ((first | (with_reducible (refine w_len (by simp; done) ?_)) | (with_reducible (refine w_pow (by decide) (by decide) (by decide) ?_)) | fail); decreasing_trivial))
          refine w_ixT atI_0 ?_
          (decreasing_trivial; repeat ((first | (with_reducible (refine w_len (by simp; done) ?_)) | (with_reducible (refine w_pow (by decide) (by decide) (by decide) ?_)) | fail); decreasing_trivial))
          refine gIn_3 ?_
          refine ⟨rfl, rfl, ?_⟩
          rw [decide_eq_true (show r.length = 1 by omega), Bool.and_true, sbeq (a := "new"), sbeq (a := "use"), sbeq (a := "drop"), Bool.or_assoc]
        · refine ⟨rfl, rfl, ?_⟩
          have h3 : ¬ r.length = 1 := fun z => by
            simp [z] at h2
          rw [decide_eq_false h3, Bool.and_false]

def compB (v : AV) : Bool := match v with
  | .tup [.str a, b] => if a == ("loop" : Str) then true else (match b with
    | .tup xs => (a == ("seq" : Str) && decide (xs.length ≤ 20)) || (a == ("branch" : Str) && (decide (1 ≤ xs.length) && decide (xs.length ≤ 6)))
    | _ => false)
  | _ => false
def partsV (v : AV) : List AV := match v with
  | .tup [.str a, b] => if a == ("loop" : Str) then [b] else (match b with
    | .tup xs => xs
    | _ => [])
  | _ => []
theorem comp_len {xs : List AV} (h : xs.length ≠ 2) : compB (.tup xs) = false := by
  unfold compB
  split
  · rename_i e
    cases e
    exact absurd rfl h
  · rfl
theorem comp_hd {a b : AV} (h : ∀ z, a ≠ .str z) : compB (.tup [a, b]) = false := by
  cases a <;> first | rfl | exact absurd rfl (h _)
theorem comp_sn {a : Str} {b : AV} (h1 : (a == ("loop" : Str)) = false) (h : ∀ z, b ≠ .tup z) : compB (.tup [.str a, b]) = false := by
  simp only [compB, h1, Bool.false_eq_true, if_false]
def CompOk (f : Fn) : Prop := ∀ v, Th v → Pure1 f [v] (.bl (compB v))
theorem comp_ok (T : Nat → Fn) : CompOk (fnR 1 1 (m421_is_composed T)) := fun v hv => Pure1.of rfl fun μ => by
  simp only [startA_s, List.map_cons, List.map_nil, List.length_cons, List.length_nil, Nat.reduceAdd, Nat.reduceSub, List.replicate_succ, List.replicate_zero, List.cons_append, List.nil_append]
  unfold m421_is_composed
  have no : compB v = false → ∀ D : Kt, (∀ v' σ, (σ = μ ∧ pure? v' = true ∧ v' = .bl (compB v)) → D.rt v' σ) → wo (sRet (eC (.bl false)) [some v] μ) D := fun h D hD => by
    (decreasing_trivial; repeat ((first | (with_reducible (refine w_len (by simp; done) ?_)) | (with_reducible (refine w_pow (by decide) (by decide) (by decide) ?_)) | fail); decreasing_trivial))
    exact hD _ _ ⟨rfl, rfl, by rw [h]⟩
  refine o_seq2 (fun ρ1 σ => σ = μ ∧ ∃ a b, v = .tup [.str a, b] ∧ ρ1 = [some v]) ?_ ?_
  · (decreasing_trivial; repeat ((first | (with_reducible (refine w_len (by simp; done) ?_)) | (with_reducible (refine w_pow (by decide) (by decide) (by decide) ?_)) | fail); decreasing_trivial))
    refine isi_tup hv.1 (fun xs e => ?_) (fun e => ?_)
    · subst e
      refine ⟨_, rfl, ?_⟩
      rw [if_neg (by simp)]
      (decreasing_trivial; repeat ((first | (with_reducible (refine w_len (by simp; done) ?_)) | (with_reducible (refine w_pow (by decide) (by decide) (by decide) ?_)) | fail); decreasing_trivial))
      refine gNe_i ?_
      refine ⟨_, rfl, ?_⟩
      refine ite_k (fun h => ?_) (fun h => ?_)
      · refine no (comp_len fun z => ?_) _ fun v σ h => h
        rw [z] at h
        exact absurd h (by decide)
      · have hl : xs.length = 2 := by
          have h2 : ((xs.length : Int) == 2) = true := by simpa using h
          have := eq_of_beq h2
          omega
        match xs, hl with
        | [x, b], _ =>
          (decreasing_trivial; repeat ((first | (with_reducible (refine w_len (by simp; done) ?_)) | (with_reducible (refine w_pow (by decide) (by decide) (by decide) ?_)) | fail); decreasing_trivial))
          refine w_ixT atI_0 ?_
          (decreasing_trivial; repeat ((first | (with_reducible (refine w_len (by simp; done) ?_)) | (with_reducible (refine w_pow (by decide) (by decide) (by decide) ?_)) | fail); decreasing_trivial))
          refine isi_str ((Th.tup.mp hv) x List.mem_cons_self).1 (fun z e => ?_) (fun e => ?_)
          · subst e
            refine ⟨_, rfl, ?_⟩
            rw [if_neg (by simp)]
            (decreasing_trivial; repeat ((first | (with_reducible (refine w_len (by simp; done) ?_)) | (with_reducible (refine w_pow (by decide) (by decide) (by decide) ?_)) | fail); decreasing_trivial))
            exact ⟨rfl, z, b, rfl, rfl⟩
          · refine ⟨_, rfl, ?_⟩
            rw [if_pos (by simp)]
            exact no (comp_hd e) _ fun v σ h => h
    · refine ⟨_, rfl, ?_⟩
      rw [if_pos (by simp)]
      refine no ?_ _ fun v σ h => h
      cases v <;> first | rfl | exact absurd rfl (e _)
  · rintro ρ1 σ ⟨rfl, a, b, rfl, rfl⟩
    have hb := (Th.tup.mp hv) b (by simp)
    (decreasing_trivial; repeat ((first | (with_reducible (refine w_len (by simp; done) ?_)) | (with_reducible (refine w_pow (by decide) (by decide) (by decide) ?_)) | fail); decreasing_trivial))
    refine w_ixT atI_0 ?_
    (decreasing_trivial; repeat ((first | (with_reducible (refine w_len (by simp; done) ?_)) | (with_reducible (refine w_pow (by decide) (by decide) (by decide) ?_)) | fail); decreasing_trivial))
    refine gEq_s rfl ?_
    (decreasing_trivial; repeat ((first | (with_reducible (refine w_len (by simp; done) ?_)) | (with_reducible (refine w_pow (by decide) (by decide) (by decide) ?_)) | fail); decreasing_trivial))
    refine ite_k (fun h1 => ?_) (fun h1 => ?_)
    · (decreasing_trivial; repeat ((first | (with_reducible (refine w_len (by simp; done) ?_)) | (with_reducible (refine w_pow (by decide) (by decide) (by decide) ?_)) | fail); decreasing_trivial))
      exact ⟨rfl, rfl, by simp only [compB, h1, if_true]⟩
    · (decreasing_trivial; repeat ((first | (with_reducible (refine w_len (by simp; done) ?_)) | (with_reducible (refine w_pow (by decide) (by decide) (by decide) ?_)) | fail); decreasing_trivial))
      refine w_ixT rfl ?_
      (decreasing_trivial; repeat ((first | (with_reducible (refine w_len (by simp; done) ?_)) | (with_reducible (refine w_pow (by decide) (by decide) (by decide) ?_)) | fail); decreasing_trivial))
      refine isi_tup hb.1 (fun xs e => ?_) (fun e => ?_)
      · subst e
        refine ⟨_, rfl, ?_⟩
        rw [if_neg (by simp)]
        (decreasing_trivial; repeat ((first | (with_reducible (refine w_len (by simp; done) ?_)) | (with_reducible (refine w_pow (by decide) (by decide) (by decide) ?_)) | fail); decreasing_trivial))
        simp only [compB, h1, Bool.false_eq_true, if_false]
        refine w_ixT atI_0 ?_
        (decreasing_trivial; repeat ((first | (with_reducible (refine w_len (by simp; done) ?_)) | (with_reducible (refine w_pow (by decide) (by decide) (by decide) ?_)) | fail); decreasing_trivial))
        refine gEq_s rfl ?_
        refine ⟨_, rfl, ?_⟩
        have second : ∀ Q : AV → Store → Prop, Q (.bl (a == ("branch" : Str) && (decide (1 ≤ xs.length) && decide (xs.length ≤ 6)))) σ → wp (eAn (eOp gEq (eOp gIx (eVar 0) (eC (.int 0))) (eC (.str "branch"))) (eChain gLe gLe (eC (.int 1)) (eCB gLen (aCons (eOp gIx (eVar 0) (eC (.int 1))) aNil)) (eC (.int 6))) [some (.tup [.str a, .tup xs])] σ) Q := fun Q hQ => by
          (decreasing_trivial; repeat ((first | (with_reducible (refine w_len (by simp; done) ?_)) | (with_reducible (refine w_pow (by decide) (by decide) (by decide) ?_)) | fail); decreasing_trivial))
          refine w_ixT atI_0 ?_
          (decreasing_trivial; repeat ((first | (with_reducible (refine w_len (by simp; done) ?_)) | (with_reducible (refine w_pow (by decide) (by decide) (by decide) ?_)) | fail); decreasing_trivial))
          refine gEq_s rfl ?_
          refine ⟨_, rfl, ?_⟩
          cases h2 : (a == ("branch" : Str)) with
          | false =>
            rw [if_neg (by simp)]
            rw [h2] at hQ
            exact hQ
          | true =>
            rw [if_pos rfl]
            rw [h2, Bool.true_and] at hQ
            (decreasing_trivial; repeat ((first | (with_reducible (refine w_len (by simp; done) ?_)) | (with_reducible (refine w_pow (by decide) (by decide) (by decide) ?_)) | fail); decreasing_trivial))
            refine w_ixT rfl ?_
            (decreasing_trivial; repeat ((first | (with_reducible (refine w_len (by simp; done) ?_)) | (with_reducible (refine w_pow (by decide) (by decide) (by decide) ?_)) | fail); decreasing_trivial))
            refine ite_k (fun h3 => ?_) (fun h3 => ?_)
            · have h3 := of_decide_eq_true h3
              (decreasing_trivial; repeat ((first | (with_reducible (refine w_len (by simp; done) ?_)) | (with_reducible (refine w_pow (by decide) (by decide) (by decide) ?_)) | fail); decreasing_trivial))
              rw [decide_eq_true (show 1 ≤ xs.length by omega), Bool.true_and] at hQ
              have e : decide ((xs.length : Int) ≤ 6) = decide (xs.length ≤ 6) := decide_eq_decide.mpr (by omega)
              rw [e]
              exact hQ
            · have h3 := of_decide_eq_false h3
              rw [decide_eq_false (show ¬ 1 ≤ xs.length by omega), Bool.false_and] at hQ
              exact hQ
        cases h2 : (a == ("seq" : Str)) with
        | false =>
          rw [if_neg (by simp)]
          refine ⟨_, rfl, ?_⟩
          rw [if_neg (by simp)]
          refine second _ ⟨rfl, rfl, ?_⟩
          rw [Bool.false_and, Bool.false_or]
        | true =>
          rw [if_pos rfl]
          (decreasing_trivial; repeat ((first | (with_reducible (refine w_len (by simp; done) ?_)) | (with_reducible (refine w_pow (by decide) (by decide) (by decide) ?_)) | fail); decreasing_trivial))
          refine w_ixT rfl ?_
          (decreasing_trivial; repeat ((first | (with_reducible (refine w_len (by simp; done) ?_)) | (with_reducible (refine w_pow (by decide) (by decide) (by decide) ?_)) | fail); decreasing_trivial))
          have e : decide ((xs.length : Int) ≤ 20) = decide (xs.length ≤ 20) := decide_eq_decide.mpr (by omega)
          rw [e]
          refine ite_k (fun h3 => ?_) (fun h3 => ?_)
          · rw [h3]
            exact ⟨rfl, rfl, rfl⟩
          · refine second _ ⟨rfl, rfl, ?_⟩
            rw [h3, Bool.and_false, Bool.false_or]
      · refine ⟨_, rfl, ?_⟩
        rw [if_pos (by simp)]
        exact no (comp_sn h1 e) _ fun v σ h => h
theorem comp_inv {v : AV} (h : compB v = true) : ∃ a b, v = .tup [.str a, b] ∧ ((a == ("loop" : Str)) = true ∧ partsV v = [b] ∨ (a == ("loop" : Str)) = false ∧ (("seq" : Str) == a || ("branch" : Str) == a) = true ∧ b = .tup (partsV v) ∧ (partsV v).length ≤ 20) := by
  unfold compB at h
  split at h
  · rename_i a b
    refine ⟨a, b, rfl, ?_⟩
    cases h1 : (a == ("loop" : Str)) with
    | true => exact .inl ⟨rfl, by simp only [partsV, h1, if_true]⟩
    | false =>
      rw [h1, if_neg (by simp)] at h
      split at h
      · rename_i xs
        refine .inr ⟨rfl, ?_, ?_, ?_⟩
        · rw [sbeq (a := "seq"), sbeq (a := "branch")]
          cases h2 : (a == ("seq" : Str)) <;> cases h3 : (a == ("branch" : Str)) <;> simp [h2, h3] at h ⊢
        · simp only [partsV, h1, Bool.false_eq_true, if_false]
        · simp only [partsV, h1, Bool.false_eq_true, if_false]
          simp only [Bool.or_eq_true, Bool.and_eq_true, decide_eq_true_eq] at h
          omega
      · cases h
  · cases h
def PartsVOk (f : Fn) : Prop := ∀ v, Th v → compB v = true → Pure1 f [v] (.tup (partsV v))
theorem partsv_ok (T : Nat → Fn) : PartsVOk (fnR 1 1 (m19_parts_of T)) := fun v hv hc => Pure1.of rfl fun μ => by
  obtain ⟨a, b, rfl, h | h⟩ := comp_inv hc
  · obtain ⟨h1, h2⟩ := h
    rw [h2]
    simp only [startA_s, List.map_cons, List.map_nil, List.length_cons, List.length_nil, Nat.reduceAdd, Nat.reduceSub, List.replicate_succ, List.replicate_zero, List.cons_append, List.nil_append]
    unfold m19_parts_of
    (decreasing_trivial; repeat ((first | (with_reducible (refine w_len (by simp; done) ?_)) | (with_reducible (refine w_pow (by decide) (by decide) (by decide) ?_)) | fail); decreasing_trivial))
    refine w_ixT atI_0 ?_
    (decreasing_trivial; repeat ((first | (with_reducible (refine w_len (by simp; done) ?_)) | (with_reducible (refine w_pow (by decide) (by decide) (by decide) ?_)) | fail); decreasing_trivial))
    refine gEq_s h1 ?_
    (decreasing_trivial; repeat ((first | (with_reducible (refine w_len (by simp; done) ?_)) | (with_reducible (refine w_pow (by decide) (by decide) (by decide) ?_)) | fail); decreasing_trivial))
    rw [if_pos rfl]
    (decreasing_trivial; repeat ((first | (with_reducible (refine w_len (by simp; done) ?_)) | (with_reducible (refine w_pow (by decide) (by decide) (by decide) ?_)) | fail); decreasing_trivial))
    rw [cut_tl]
    have := (Th.tup.mp hv) b (by simp)
    exact ⟨rfl, by simp [pure?, pureL, this.pure], rfl⟩
  · obtain ⟨h1, h2, h3, h4⟩ := h
    simp only [startA_s, List.map_cons, List.map_nil, List.length_cons, List.length_nil, Nat.reduceAdd, Nat.reduceSub, List.replicate_succ, List.replicate_zero, List.cons_append, List.nil_append]
    unfold m19_parts_of
    (decreasing_trivial; repeat ((first | (with_reducible (refine w_len (by simp; done) ?_)) | (with_reducible (refine w_pow (by decide) (by decide) (by decide) ?_)) | fail); decreasing_trivial))
    refine w_ixT atI_0 ?_
    (decreasing_trivial; repeat ((first | (with_reducible (refine w_len (by simp; done) ?_)) | (with_reducible (refine w_pow (by decide) (by decide) (by decide) ?_)) | fail); decreasing_trivial))
    refine gEq_s h1 ?_
    (decreasing_trivial; repeat ((first | (with_reducible (refine w_len (by simp; done) ?_)) | (with_reducible (refine w_pow (by decide) (by decide) (by decide) ?_)) | fail); decreasing_trivial))
    rw [if_neg (by simp)]
    (decreasing_trivial; repeat ((first | (with_reducible (refine w_len (by simp; done) ?_)) | (with_reducible (refine w_pow (by decide) (by decide) (by decide) ?_)) | fail); decreasing_trivial))
    refine w_ixT atI_0 ?_
    (decreasing_trivial; repeat ((first | (with_reducible (refine w_len (by simp; done) ?_)) | (with_reducible (refine w_pow (by decide) (by decide) (by decide) ?_)) | fail); decreasing_trivial))
    refine gIn_2 h2 ?_
    (decreasing_trivial; repeat ((first | (with_reducible (refine w_len (by simp; done) ?_)) | (with_reducible (refine w_pow (by decide) (by decide) (by decide) ?_)) | fail); decreasing_trivial))
    rw [if_pos rfl]
    (decreasing_trivial; repeat ((first | (with_reducible (refine w_len (by simp; done) ?_)) | (with_reducible (refine w_pow (by decide) (by decide) (by decide) ?_)) | fail); decreasing_trivial))
    refine w_ixT rfl ?_
    have := (Th.tup.mp hv) b (by simp)
    exact ⟨rfl, this.pure, h3⟩
theorem parts_th {v : AV} (hv : Th v) (hc : compB v = true) : ∀ p ∈ partsV v, Th p := by
  obtain ⟨a, b, rfl, h | h⟩ := comp_inv hc
  · rw [h.2]
    intro p hp
    rw [List.mem_singleton.mp hp]
    exact (Th.tup.mp hv) b (by simp)
  · have hb := (Th.tup.mp hv) b (by simp)
    rw [h.2.2.1] at hb
    exact Th.tup.mp hb
theorem szL_mem {x : AV} : ∀ {xs : List AV}, x ∈ xs → sz x + 2 ≤ szL xs
  | y :: ys, h => by
    simp only [szL]
    rcases List.mem_cons.mp h with h | h
    · rw [h]; omega
    · have := szL_mem h
      omega
theorem parts_sz {v : AV} (hc : compB v = true) : szL (partsV v) + 3 ≤ sz v := by
  obtain ⟨a, b, rfl, h | h⟩ := comp_inv hc
  · rw [h.2]
    simp only [sz, szL]
    omega
  · have e : sz b = 3 + szL (partsV (.tup [.str a, b])) := by
      conv => lhs; rw [h.2.2.1]
      rfl
    have : sz (.tup [.str a, b]) = 3 + (sz (.str a) + 2 + (sz b + 2 + 0)) := rfl
    omega
end Lr

namespace Lr
open PySem PySem.Spec L2

def allP : Nat → AV → Nat → List (Option AV × Nat)
  | 0, _, d => [(none, d)]
  | k + 1, v, d => if oneB v then [(some v, d)] else if compB v && decide (d ≤ 20) then (some v, d) :: (partsV v).flatMap (fun p => allP k p (d + 1)) else [(none, d)]
def pv (p : Option AV × Nat) : AV := .tup [p.1.getD .non, .int (p.2 : Nat)]
theorem allP_len : ∀ (k : Nat) (v : AV) (d : Nat), 1 ≤ (allP k v d).length ∧ (allP k v d).length ≤ sz v + 1
  | 0, v, d => by simp [allP]
  | k + 1, v, d => by
    unfold allP
    split
    · simp
    · split
      · rename_i h
        rw [Bool.and_eq_true] at h
        have hs := parts_sz h.1
        have : ∀ ps : List AV, (ps.flatMap fun p => allP k p (d + 1)).length ≤ szL ps := fun ps => by
          induction ps with
          | nil => simp
          | cons p ps ih =>
            have := (allP_len k p (d + 1)).2
            rw [List.flatMap_cons, List.length_append]
            simp only [szL]
            omega
        have := this (partsV v)
        simp only [List.length_cons]
        omega
      · simp
theorem allP_th : ∀ (k : Nat) (v : AV) (d : Nat), Th v → ∀ p ∈ allP k v d, ∀ x, p.1 = some x → Th x
  | 0, v, d, hv, p, hp, x, e => by
    rw [List.mem_singleton.mp hp] at e
    cases e
  | k + 1, v, d, hv, p, hp, x, e => by
    unfold allP at hp
    split at hp
    · rw [List.mem_singleton.mp hp] at e
      cases e
      exact hv
    · split at hp
      · rename_i h
        rw [Bool.and_eq_true] at h
        rcases List.mem_cons.mp hp with hp | hp
        · rw [hp] at e
          cases e
          exact hv
        · obtain ⟨q, hq, hp⟩ := List.mem_flatMap.mp hp
          exact allP_th k q (d + 1) (parts_th hv h.1 q hq) p hp x e
      · rw [List.mem_singleton.mp hp] at e
        cases e
theorem pv_pure {L : List (Option AV × Nat)} (h : ∀ p ∈ L, ∀ x, p.1 = some x → Th x) : pureL (L.map pv) = true := by
  rw [pureL_all, List.all_map, List.all_eq_true]
  intro p hp
  show pure? (pv p) = true
  unfold pv
  cases e : p.1 with
  | none => rfl
  | some x => simp [pure?, pureL, (h p hp x e).pure]

theorem fn_wpA {n m : Nat} {b : AS} {as : List AV} {μ : Store} {Q : AV → Store → Prop} (hl : as.length = m)
    (h : wo (b (startA n as) μ) { rt := fun v σ => (pure? v = true ∧ gcOk μ σ ∧ Q v (σ.take μ.length)) ∨ (bel μ.length v = false ∧ Q v σ) }) : wp (fnR n m b as μ) Q := by
  unfold fnR
  rw [if_pos hl]
  unfold bodyR
  revert h
  cases b (startA n as) μ with
  | rt v σ =>
    intro h
    unfold gc
    simp only
    rcases h with ⟨h1, h2, h3⟩ | ⟨h1, h2⟩
    · rw [if_pos ⟨bel_pure _ v h1, h2⟩]
      exact h3
    · rw [if_neg (by rw [h1]; simp)]
      exact h2
  | nx ρ σ => exact False.elim
  | bk ρ σ => exact False.elim
  | ct ρ σ => exact False.elim
  | ex c p ρ σ => exact False.elim
  | bad => exact False.elim
def AllOk (f : Fn) (k : Nat) : Prop := ∀ (v : AV) (d : Nat), Th v → sz v ≤ 60000 → k + d = 22 → ∀ μ, wp (f [v, .int (d : Nat)] μ) fun r σ => μ <+: σ ∧ lsOf σ r = some ((allP k v d).map pv)
abbrev KV2 : List (Key × AV) := [(.inr "seq", .int 20), (.inr "branch", .int 6)]
theorem w_most {ρ : Loc} {μ : Store} {Q : AV → Store → Prop} {i d : AE} (h : wp (i ρ (μ ++ [.dct KV2])) fun j μ2 => wp (d ρ μ2) fun z μ3 => ∃ x, j = .str x ∧ μ3[μ.length]? = some (.dct KV2) ∧ Q ((valA KV2 (.inr x)).getD z) μ3) :
    wp (eDGet2 (eDKeep (aDisp (pCons (eC (.str "seq")) (eC (.int 20)) (pCons (eC (.str "branch")) (eC (.int 6)) pNil)))) i d ρ μ) Q := by
  have e : eDKeep (aDisp (pCons (eC (.str "seq")) (eC (.int 20)) (pCons (eC (.str "branch")) (eC (.int 6)) pNil))) ρ μ = .ok (.loc μ.length) (μ ++ [.dct KV2]) := by
    unfold eDKeep aDisp pCons pNil
    simp only [eC_s, Res.bind_ok, keyed, keyOf]
    rw [if_pos ⟨by decide, by decide⟩]
    rfl
  unfold eDGet2
  rw [e, Res.bind_ok, if_pos (by simp [isDc, stD]), wp_bind]
  refine h.mono fun j μ2 h => ?_
  rw [wp_bind]
  refine h.mono fun z μ3 h => ?_
  obtain ⟨x, rfl, e3, h⟩ := h
  simp only [stD_o e3, keyOf]
  exact h
theorem its_of {μ : Store} {r : AV} {xs : List AV} (h : lsOf μ r = some xs) : itsOf μ r = some xs := by
  cases r <;> first | exact h | cases h
theorem pre_get {μ σ : Store} {i : Nat} {o : AO} (h : μ <+: σ) (e : μ[i]? = some o) : σ[i]? = some o := by
  obtain ⟨r, rfl⟩ := h
  rw [List.getElem?_append_left (List.getElem?_eq_some_iff.mp e).1]
  exact e
theorem ls_pre {μ σ : Store} {v : AV} {xs : List AV} (h : μ <+: σ) (e : lsOf μ v = some xs) : lsOf σ v = some xs := by
  cases v <;> first | exact e | skip
  rename_i n
  simp only [lsOf] at e ⊢
  cases q : μ[n]? with
  | none => rw [q] at e; cases e
  | some o =>
    rw [q] at e
    rw [pre_get h q]
    exact e
theorem most_of {a : Str} : (valA KV2 (.inr a)).getD (.int (-1)) = .int (if ("seq" : Str) == a then 20 else if ("branch" : Str) == a then 6 else -1) := by
  unfold valA KV2
  simp only [List.find?_cons, List.find?_nil, Sum.inr.injEq]
  by_cases h1 : Str.ofString "seq" = a
  · rw [decide_eq_true h1, if_pos (by simp [h1])]
    rfl
  · rw [decide_eq_false h1, if_neg (by simp [h1])]
    by_cases h2 : Str.ofString "branch" = a
    · rw [decide_eq_true h2, if_pos (by simp [h2])]
      rfl
    · rw [decide_eq_false h2, if_neg (by simp [h2])]
      rfl
theorem sz_len : ∀ xs : List AV, 2 * xs.length ≤ szL xs
  | [] => by simp
  | x :: xs => by have := sz_len xs; simp only [List.length_cons, szL]; omega
theorem th_len {v : AV} (hz : sz v ≤ 60000) : ∀ xs, v = .tup xs → xs.length ≤ 100000 := fun xs e => by
  subst e
  have := sz_len xs
  simp only [sz] at hz
  omega
theorem eq_branch {a : Str} {xs : List AV} {μ : Store} {Q : AV → Store → Prop} (h : Q (.bl ((a == ("branch" : Str)) && xs.isEmpty)) μ) : wp (gEq (.tup [.str a, .tup xs]) (.tup [.str "branch", .tup []]) μ) Q := by
  refine w_gEq (r := (a == ("branch" : Str)) && xs.isEmpty) ?_ (by simp [depM, lsOf, dep, depL]) h
  cases xs <;> simp [eqB, lsOf, eqv, eqvL]
theorem all_ok (T : Nat → Fn) (h1 : OneOk (T i11_law_is_one)) (k : Nat) (ih : 1 ≤ k → AllOk (T i12_law_all_parts) k) : AllOk (fnR 5 2 (m12_law_all_parts T)) (k + 1) := fun v d hv hz hk μ => by
  refine fn_wpA rfl ?_
  simp only [startA_s, List.map_cons, List.map_nil, List.length_cons, List.length_nil, Nat.reduceAdd, Nat.reduceSub, List.replicate_succ, List.replicate_zero, List.cons_append, List.nil_append]
  unfold m12_law_all_parts
  have data : ∀ (L : List (Option AV × Nat)) (σ : Store), allP (k + 1) v d = L → μ <+: σ → (pure? (.lst (L.map pv)) = true ∧ gcOk μ σ ∧ μ <+: σ.take μ.length ∧ lsOf (σ.take μ.length) (.lst (L.map pv)) = some ((allP (k + 1) v d).map pv)) := fun L σ e pre => by
    refine ⟨?_, (gcOk_pre pre).1, ?_, ?_⟩
    · rw [← e]
      simpa [pure?] using pv_pure (allP_th (k + 1) v d hv)
    · rw [(gcOk_pre pre).2]
      exact List.prefix_refl _
    · rw [e]
      rfl
  refine o_seq2 (fun ρ1 σ => σ = μ ∧ oneB v = false ∧ ρ1 = [some v, some (.int (d : Nat)), none, none, none]) ?_ ?_
  · (decreasing_trivial; repeat ((first | (with_reducible (refine w_len (by simp; done) ?_)) | (with_reducible (refine w_pow (by decide) (by decide) (by decide) ?_)) | fail); decreasing_trivial))
    refine (h1 v hv (th_len hz) μ).mono fun u σ ⟨e1, e2⟩ => ?_
    subst e1 e2
    refine ⟨_, rfl, ?_⟩
    refine ite_k (fun h => ?_) (fun h => ?_)
    · (decreasing_trivial; repeat ((first | (with_reducible (refine w_len (by simp; done) ?_)) | (with_reducible (refine w_pow (by decide) (by decide) (by decide) ?_)) | fail); decreasing_trivial))
      exact .inl (data [(some v, d)] σ (by simp only [allP, h, if_true]) (List.prefix_refl _))
    · (decreasing_trivial; repeat ((first | (with_reducible (refine w_len (by simp; done) ?_)) | (with_reducible (refine w_pow (by decide) (by decide) (by decide) ?_)) | fail); decreasing_trivial))
      exact ⟨rfl, h, rfl⟩
  · rintro ρ1 σ ⟨rfl, ho, rfl⟩
    have none_ : (compB v && decide (d ≤ 20)) = false → ∀ τ : Store, σ <+: τ → ∀ x2 : Option AV, ∀ D : Kt, (∀ v' σ', ((pure? v' = true ∧ gcOk σ σ' ∧ σ <+: σ'.take σ.length ∧ lsOf (σ'.take σ.length) v' = some ((allP (k + 1) v d).map pv)) ∨ (bel σ.length v' = false ∧ σ <+: σ' ∧ lsOf σ' v' = some ((allP (k + 1) v d).map pv))) → D.rt v' σ') → wo (sRet (eDat (aLst (aCons (eTup (aCons (eC .non) (aCons (eVar 1) aNil))) aNil))) [some v, some (.int (d : Nat)), x2, none, none] τ) D := fun h τ pre x2 D hD => by
      (decreasing_trivial; repeat ((first | (with_reducible (refine w_len (by simp; done) ?_)) | (with_reducible (refine w_pow (by decide) (by decide) (by decide) ?_)) | fail); decreasing_trivial))
      exact hD _ _ (.inl (data [(none, d)] τ (by simp only [allP, ho, h, Bool.false_eq_true, if_false]) pre))
    refine o_seq2 (fun ρ1 τ => τ = σ ∧ d ≤ 20 ∧ ∃ a b, v = .tup [.str a, b] ∧ ρ1 = [some v, some (.int (d : Nat)), none, none, none]) ?_ ?_
    · (decreasing_trivial; repeat ((first | (with_reducible (refine w_len (by simp; done) ?_)) | (with_reducible (refine w_pow (by decide) (by decide) (by decide) ?_)) | fail); decreasing_trivial))
      refine isi_tup hv.1 (fun xs e => ?_) (fun e => ?_)
      · subst e
        refine ⟨_, rfl, ?_⟩
        rw [if_neg (by simp)]
        (decreasing_trivial; repeat ((first | (with_reducible (refine w_len (by simp; done) ?_)) | (with_reducible (refine w_pow (by decide) (by decide) (by decide) ?_)) | fail); decreasing_trivial))
        refine gNe_i ?_
        refine ⟨_, rfl, ?_⟩
        refine ite_k (fun h => ?_) (fun h => ?_)
        · refine none_ ?_ σ (List.prefix_refl _) none _ fun v σ h => h
          rw [comp_len fun z => ?_, Bool.false_and]
          rw [z] at h
          exact absurd h (by decide)
        · have hl : xs.length = 2 := by
            have h2 : ((xs.length : Int) == 2) = true := by simpa using h
            have := eq_of_beq h2
            omega
          match xs, hl with
          | [x, b], _ =>
            (decreasing_trivial; repeat ((first | (with_reducible (refine w_len (by simp; done) ?_)) | (with_reducible (refine w_pow (by decide) (by decide) (by decide) ?_)) | fail); decreasing_trivial))
            refine w_ixT atI_0 ?_
            (decreasing_trivial; repeat ((first | (with_reducible (refine w_len (by simp; done) ?_)) | (with_reducible (refine w_pow (by decide) (by decide) (by decide) ?_)) | fail); decreasing_trivial))
            refine isi_str ((Th.tup.mp hv) x List.mem_cons_self).1 (fun z e => ?_) (fun e => ?_)
            · subst e
              refine ⟨_, rfl, ?_⟩
              rw [if_neg (by simp)]
              (decreasing_trivial; repeat ((first | (with_reducible (refine w_len (by simp; done) ?_)) | (with_reducible (refine w_pow (by decide) (by decide) (by decide) ?_)) | fail); decreasing_trivial))
              refine ite_k (fun h3 => ?_) (fun h3 => ?_)
              · have h3 := of_decide_eq_true h3
                refine none_ ?_ σ (List.prefix_refl _) none _ fun v σ h => h
                rw [decide_eq_false (show ¬ d ≤ 20 by omega), Bool.and_false]
              · have h3 := of_decide_eq_false h3
                (decreasing_trivial; repeat ((first | (with_reducible (refine w_len (by simp; done) ?_)) | (with_reducible (refine w_pow (by decide) (by decide) (by decide) ?_)) | fail); decreasing_trivial))
                exact ⟨rfl, by omega, z, b, rfl, rfl⟩
            · refine ⟨_, rfl, ?_⟩
              rw [if_pos (by simp)]
              refine none_ ?_ σ (List.prefix_refl _) none _ fun v σ h => h
              rw [comp_hd e, Bool.false_and]
      · refine ⟨_, rfl, ?_⟩
        rw [if_pos (by simp)]
        refine none_ ?_ σ (List.prefix_refl _) none _ fun v σ h => h
        have : compB v = false := by cases v <;> first | rfl | exact absurd rfl (e _)
        rw [this, Bool.false_and]
    · rintro ρ2 τ ⟨rfl, hd, a, b, rfl, rfl⟩
      have hb := (Th.tup.mp hv) b (by simp)
      have hd2 : decide (d ≤ 20) = true := decide_eq_true hd
      have hszb : sz b ≤ 60000 := by simp only [sz, szL] at hz; omega
      refine o_seq2 (fun ρ1 τ2 => τ2 = τ ∧ (a == ("loop" : Str)) = false ∧ ρ1 = [some (.tup [.str a, b]), some (.int (d : Nat)), none, none, none]) ?_ ?_
      · (decreasing_trivial; repeat ((first | (with_reducible (refine w_len (by simp; done) ?_)) | (with_reducible (refine w_pow (by decide) (by decide) (by decide) ?_)) | fail); decreasing_trivial))
        refine w_ixT atI_0 ?_
        (decreasing_trivial; repeat ((first | (with_reducible (refine w_len (by simp; done) ?_)) | (with_reducible (refine w_pow (by decide) (by decide) (by decide) ?_)) | fail); decreasing_trivial))
        refine gEq_s rfl ?_
        (decreasing_trivial; repeat ((first | (with_reducible (refine w_len (by simp; done) ?_)) | (with_reducible (refine w_pow (by decide) (by decide) (by decide) ?_)) | fail); decreasing_trivial))
        refine ite_k (fun h2 => ?_) (fun h2 => ?_)
        · (decreasing_trivial; repeat ((first | (with_reducible (refine w_len (by simp; done) ?_)) | (with_reducible (refine w_pow (by decide) (by decide) (by decide) ?_)) | fail); decreasing_trivial))
          refine w_ixT rfl ?_
          (decreasing_trivial; repeat ((first | (with_reducible (refine w_len (by simp; done) ?_)) | (with_reducible (refine w_pow (by decide) (by decide) (by decide) ?_)) | fail); decreasing_trivial))
          have ed : ((d : Nat) : Int) + 1 = ((d + 1 : Nat) : Int) := by omega
          rw [ed]
          refine (ih (by omega) b (d + 1) hb hszb (by omega) τ).mono fun r σ2 ⟨pre, e⟩ => ?_
          have hlen := (allP_len k b (d + 1)).2
          refine ⟨[pv (some (.tup [.str a, b]), d)], _, rfl, e, by rw [List.length_map]; simp; omega, ?_⟩
          have ec : compB (.tup [.str a, b]) = true := by simp only [compB, h2, if_true]
          have ep : partsV (.tup [.str a, b]) = [b] := by simp only [partsV, h2, if_true]
          exact .inl (data ((some (.tup [.str a, b]), d) :: allP k b (d + 1)) σ2 (by simp only [allP, ho, ec, hd2, ep, Bool.false_eq_true, if_false, Bool.and_self, if_true, List.flatMap_cons, List.flatMap_nil, List.append_nil]) pre)
        · (decreasing_trivial; repeat ((first | (with_reducible (refine w_len (by simp; done) ?_)) | (with_reducible (refine w_pow (by decide) (by decide) (by decide) ?_)) | fail); decreasing_trivial))
          exact ⟨rfl, h2, rfl⟩
      · rintro ρ3 τ2 ⟨rfl, hnl, rfl⟩
        refine o_seq2 (fun ρ1 τ3 => τ2 <+: τ3 ∧ ρ1 = [some (.tup [.str a, b]), some (.int (d : Nat)), some (.int (if ("seq" : Str) == a then 20 else if ("branch" : Str) == a then 6 else -1)), none, none]) ?_ ?_
        · (decreasing_trivial; repeat ((first | (with_reducible (refine w_len (by simp; done) ?_)) | (with_reducible (refine w_pow (by decide) (by decide) (by decide) ?_)) | fail); decreasing_trivial))
          refine w_most ?_
          (decreasing_trivial; repeat ((first | (with_reducible (refine w_len (by simp; done) ?_)) | (with_reducible (refine w_pow (by decide) (by decide) (by decide) ?_)) | fail); decreasing_trivial))
          refine w_ixT atI_0 ?_
          (decreasing_trivial; repeat ((first | (with_reducible (refine w_len (by simp; done) ?_)) | (with_reducible (refine w_pow (by decide) (by decide) (by decide) ?_)) | fail); decreasing_trivial))
          refine ⟨by simp, ?_⟩
          refine ⟨List.prefix_append _ _, ?_⟩
          have := most_of (a := a)
          rw [show AV.int (-1) = AV.int (-1) from rfl] at this
          first | rw [this]; rfl | (show List.set _ _ _ = _; simp only [List.set]; rw [this])
        · rintro ρ4 τ3 ⟨pre3, rfl⟩
          refine o_seq2 (fun ρ1 τ4 => τ4 = τ3 ∧ ∃ xs m, b = .tup xs ∧ compB (.tup [.str a, .tup xs]) = true ∧ ρ1 = [some (.tup [.str a, .tup xs]), some (.int (d : Nat)), some m, none, none]) ?_ ?_
          · (decreasing_trivial; repeat ((first | (with_reducible (refine w_len (by simp; done) ?_)) | (with_reducible (refine w_pow (by decide) (by decide) (by decide) ?_)) | fail); decreasing_trivial))
            refine w_ixT rfl ?_
            (decreasing_trivial; repeat ((first | (with_reducible (refine w_len (by simp; done) ?_)) | (with_reducible (refine w_pow (by decide) (by decide) (by decide) ?_)) | fail); decreasing_trivial))
            refine isi_tup hb.1 (fun xs e => ?_) (fun e => ?_)
            · subst e
              refine ⟨_, rfl, ?_⟩
              rw [if_neg (by simp)]
              (decreasing_trivial; repeat ((first | (with_reducible (refine w_len (by simp; done) ?_)) | (with_reducible (refine w_pow (by decide) (by decide) (by decide) ?_)) | fail); decreasing_trivial))
              refine w_ixT rfl ?_
              (decreasing_trivial; repeat ((first | (with_reducible (refine w_len (by simp; done) ?_)) | (with_reducible (refine w_pow (by decide) (by decide) (by decide) ?_)) | fail); decreasing_trivial))
              refine ite_k (fun h3 => ?_) (fun h3 => ?_)
              · have h3 := of_decide_eq_true h3
                refine none_ ?_ τ3 pre3 (some (.int (if ("seq" : Str) == a then 20 else if ("branch" : Str) == a then 6 else -1))) _ fun v σ h => h
                have : compB (.tup [.str a, .tup xs]) = false := by
                  simp only [compB, hnl, Bool.false_eq_true, if_false]
                  rw [sbeq (a := "seq"), sbeq (a := "branch")] at h3
                  cases q1 : (a == ("seq" : Str)) <;> cases q2 : (a == ("branch" : Str)) <;> simp only [q1, q2, if_true, Bool.false_eq_true, if_false] at h3 <;> simp <;> omega
                rw [this, Bool.false_and]
              · have h3 := of_decide_eq_false h3
                (decreasing_trivial; repeat ((first | (with_reducible (refine w_len (by simp; done) ?_)) | (with_reducible (refine w_pow (by decide) (by decide) (by decide) ?_)) | fail); decreasing_trivial))
                refine eq_branch ?_
                (decreasing_trivial; repeat ((first | (with_reducible (refine w_len (by simp; done) ?_)) | (with_reducible (refine w_pow (by decide) (by decide) (by decide) ?_)) | fail); decreasing_trivial))
                refine ite_k (fun h4 => ?_) (fun h4 => ?_)
                · refine none_ ?_ τ3 pre3 (some (.int (if ("seq" : Str) == a then 20 else if ("branch" : Str) == a then 6 else -1))) _ fun v σ h => h
                  rw [Bool.and_eq_true] at h4
                  have hx : xs = [] := by simpa using h4.2
                  subst hx
                  have q2 := eq_of_beq h4.1
                  subst q2
                  have : compB (.tup [.str "branch", .tup []]) = false := by decide
                  rw [this, Bool.false_and]
                · (decreasing_trivial; repeat ((first | (with_reducible (refine w_len (by simp; done) ?_)) | (with_reducible (refine w_pow (by decide) (by decide) (by decide) ?_)) | fail); decreasing_trivial))
                  refine ⟨rfl, xs, _, rfl, ?_, rfl⟩
                  simp only [compB, hnl, Bool.false_eq_true, if_false]
                  rw [sbeq (a := "seq"), sbeq (a := "branch")] at h3
                  cases q1 : (a == ("seq" : Str)) <;> cases q2 : (a == ("branch" : Str)) <;> simp only [q1, q2, if_true, Bool.false_eq_true, if_false] at h3 h4 <;> simp <;> simp at h4 <;> (try omega)
                  have : xs.length ≠ 0 := fun z => h4 (List.eq_nil_of_length_eq_zero z)
                  omega
            · refine ⟨_, rfl, ?_⟩
              rw [if_pos (by simp)]
              refine none_ ?_ τ3 pre3 (some (.int (if ("seq" : Str) == a then 20 else if ("branch" : Str) == a then 6 else -1))) _ fun v σ h => h
              rw [comp_sn hnl e, Bool.false_and]
          · rintro ρ5 τ4 ⟨rfl, xs, m, rfl, hc, rfl⟩
            have ep : partsV (.tup [.str a, .tup xs]) = xs := by simp only [partsV, hnl, Bool.false_eq_true, if_false]
            have ea : allP (k + 1) (.tup [.str a, .tup xs]) d = (some (.tup [.str a, .tup xs]), d) :: xs.flatMap (fun p => allP k p (d + 1)) := by simp only [allP, ho, hc, hd2, ep, Bool.false_eq_true, if_false, Bool.and_self, if_true]
            have hxs := Th.tup.mp hb
            have hsx : szL xs ≤ 60000 := by simp only [sz] at hszb; omega
            have bound : ∀ i, ((xs.take i).flatMap fun p => allP k p (d + 1)).length ≤ szL xs := fun i => by
              have h1 : ∀ ps : List AV, (ps.flatMap fun p => allP k p (d + 1)).length ≤ szL ps := fun ps => by
                induction ps with
                | nil => simp
                | cons p ps ih =>
                  have := (allP_len k p (d + 1)).2
                  rw [List.flatMap_cons, List.length_append]
                  simp only [szL]
                  omega
              have h2 : szL (xs.take i) ≤ szL xs := by
                conv => rhs; rw [← List.take_append_drop i xs]
                rw [szL_app]
                omega
              exact Nat.le_trans (h1 _) h2
            (decreasing_trivial; repeat ((first | (with_reducible (refine w_len (by simp; done) ?_)) | (with_reducible (refine w_pow (by decide) (by decide) (by decide) ?_)) | fail); decreasing_trivial))
            refine w_anyT ?_
            refine w_op ?_
            (decreasing_trivial; repeat ((first | (with_reducible (refine w_len (by simp; done) ?_)) | (with_reducible (refine w_pow (by decide) (by decide) (by decide) ?_)) | fail); decreasing_trivial))
            refine w_ixT rfl ?_
            refine ⟨_, rfl, ?_⟩
            have hlx := sz_len xs
            refine wo_dat (fun i ρ τ5 => ∃ x4, ρ = [some (.tup [.str a, .tup xs]), some (.int (d : Nat)), some m, some (.loc τ4.length), x4] ∧ τ2 <+: τ5 ∧ τ2.length ≤ τ4.length ∧ τ5[τ4.length]? = some (.lst (((some (.tup [.str a, .tup xs]), d) :: (xs.take i).flatMap (fun p => allP k p (d + 1))).map pv))) ?_ ?_ FUEL 0 _ _ (by unfold FUEL; omega) (by omega) ⟨_, rfl, pre_push pre3, pre3.length_le, by rw [push_get]; rfl⟩
            · rintro ρ τ5 ⟨x4, rfl, pre5, hle, e5⟩
              rw [List.take_length] at e5
              (decreasing_trivial; repeat ((first | (with_reducible (refine w_len (by simp; done) ?_)) | (with_reducible (refine w_pow (by decide) (by decide) (by decide) ?_)) | fail); decreasing_trivial))
              refine .inr ⟨by simp only [bel]; exact decide_eq_false (by omega), pre5, ?_⟩
              rw [ea]
              simp only [lsOf, e5]
            · rintro i p ρ τ5 hp ⟨x4, rfl, pre5, hle, e5⟩
              have hm := List.mem_of_getElem? hp
              have ed : ((d : Nat) : Int) + 1 = ((d + 1 : Nat) : Int) := by omega
              refine ⟨_, rfl, ?_⟩
              (decreasing_trivial; repeat ((first | (with_reducible (refine w_len (by simp; done) ?_)) | (with_reducible (refine w_pow (by decide) (by decide) (by decide) ?_)) | fail); decreasing_trivial))
              refine ⟨by simp [isLs, lsOf, e5], ?_⟩
              (decreasing_trivial; repeat ((first | (with_reducible (refine w_len (by simp; done) ?_)) | (with_reducible (refine w_pow (by decide) (by decide) (by decide) ?_)) | fail); decreasing_trivial))
              rw [ed]
              refine (ih (by omega) p (d + 1) (hxs p hm) (by have := szL_mem hm; omega) (by omega) τ5).mono fun r τ6 ⟨pre6, e⟩ => ?_
              have e6 := pre_get pre6 e5
              have b1 := bound (i + 1)
              have et : (xs.take (i + 1)).flatMap (fun p => allP k p (d + 1)) = (xs.take i).flatMap (fun p => allP k p (d + 1)) ++ allP k p (d + 1) := by
                rw [List.take_add_one, hp, List.flatMap_append]
                simp
              rw [et, List.length_append] at b1
              refine ⟨τ4.length, _, _, rfl, e6, its_of e, by rw [List.length_map, List.length_map, List.length_cons]; omega, ?_⟩
              refine ⟨_, rfl, pre_set (pre5.trans pre6) hle, hle, ?_⟩
              rw [List.getElem?_set_self (List.getElem?_eq_some_iff.mp e6).1, et, ← List.map_append]
              rfl
end Lr

namespace Lr
open PySem PySem.Spec L2

def onesV (L : List (Option AV × Nat)) : List AV := (L.filterMap (·.1)).filter oneB
def strOf : AV → Option Str
  | .str x => some x
  | _ => none
def nmsV : AV → List Str
  | .tup (_ :: r) => r.filterMap strOf
  | _ => []
def keysV (is : List AV) : List Str := (is.flatMap nmsV).foldl addK []
def okP (p : Option AV × Nat) : Bool := p.1.isSome && decide (p.2 ≤ 8)
def progB (v : AV) : Bool := decide ((allP 21 v 1).length ≤ 60) && (allP 21 v 1).all okP && decide ((onesV (allP 21 v 1)).length ≤ 40) && decide ((keysV (onesV (allP 21 v 1))).length ≤ 8)
theorem names_strs {r : List AV} (h : r.all nameB = true) : r = (r.filterMap strOf).map AV.str := by
  induction r with
  | nil => rfl
  | cons x r ih =>
    rw [List.all_cons, Bool.and_eq_true] at h
    have : ∃ z, x = .str z := by
      cases x <;> first | exact ⟨_, rfl⟩ | (simp [nameB] at h; done)
    obtain ⟨z, rfl⟩ := this
    rw [List.filterMap_cons]
    simp only [strOf, List.map_cons]
    rw [← ih h.2]
theorem one_inv {v : AV} (h : oneB v = true) : ∃ a, v = .tup (.str a :: (nmsV v).map AV.str) ∧ (nmsV v).length ≤ 2 := by
  unfold oneB at h
  split at h
  · rename_i a r
    rw [Bool.and_eq_true] at h
    have hr := names_strs h.2
    refine ⟨a, ?_, ?_⟩
    · show AV.tup (.str a :: r) = .tup (.str a :: (r.filterMap strOf).map AV.str)
      rw [← hr]
    · show (r.filterMap strOf).length ≤ 2
      have hl : (r.filterMap strOf).length = r.length := by
        conv => rhs; rw [hr, List.length_map]
      rw [hl]
      have h1 := h.1
      split at h1
      · have := of_decide_eq_true h1
        omega
      · rw [Bool.and_eq_true] at h1
        have := of_decide_eq_true h1.2
        omega
  · cases h
theorem one_names {v : AV} (h : oneB v = true) (hv : Th v) : ∀ x ∈ nmsV v, x ∈ SS := by
  obtain ⟨a, e, _⟩ := one_inv h
  rw [e] at hv
  intro x hx
  exact sS_str ((Th.tup.mp hv) (.str x) (List.mem_cons_of_mem _ (List.mem_map_of_mem hx))).2
theorem SS33 : SS.length = 33 := rfl
theorem keysV_len {is : List AV} (h : ∀ i ∈ is, oneB i = true ∧ Th i) : (keysV is).length ≤ 33 := by
  refine List.Nodup.length_le_of_subset (l₂ := SS) (nodup_foldK .nil) fun y hy => ?_
  rcases mem_foldK.mp hy with hy | hy
  · cases hy
  · obtain ⟨i, hi, hx⟩ := List.mem_flatMap.mp hy
    exact one_names (h i hi).1 (h i hi).2 y hx
theorem keysV_mem {is : List AV} {y : Str} : y ∈ keysV is ↔ ∃ i ∈ is, y ∈ nmsV i := by
  unfold keysV
  rw [mem_foldK, List.mem_flatMap]
  simp
theorem keysV_perm {is js : List AV} (h : ∀ i, i ∈ is ↔ i ∈ js) : (keysV is).length = (keysV js).length := by
  have a : ∀ {is js : List AV}, (∀ i, i ∈ is ↔ i ∈ js) → (keysV is).length ≤ (keysV js).length := fun {is js} h =>
    List.Nodup.length_le_of_subset (nodup_foldK .nil) fun y hy => by
      obtain ⟨i, hi, hx⟩ := keysV_mem.mp hy
      exact keysV_mem.mpr ⟨i, (h i).mp hi, hx⟩
  exact Nat.le_antisymm (a h) (a fun i => (h i).symm)
theorem keysV_take {is : List AV} {i : Nat} {p : AV} (h : is[i]? = some p) : keysV (is.take (i + 1)) = (nmsV p).foldl addK (keysV (is.take i)) := by
  unfold keysV
  rw [List.take_add_one, h, List.flatMap_append, List.foldl_append]
  simp
theorem onesV_app (a b : List (Option AV × Nat)) : onesV (a ++ b) = onesV a ++ onesV b := by
  unfold onesV
  rw [List.filterMap_append, List.filter_append]
theorem w_lenLs {r : AV} {xs : List AV} {μ : Store} {Q : AV → Store → Prop} (e : lsOf μ r = some xs) (h : Q (.int xs.length) μ) : wp (gLen [r] μ) Q := by
  cases r <;> first | (cases e; done) | skip
  · cases e
    exact h
  · rename_i n
    simp only [gLen, seqOf, e]
    exact h
theorem w_any {xs : List AV} {bs : List Bool} {μ : Store} {Q : AV → Store → Prop} (e : blsOf xs = some bs) (h : Q (.bl (bs.any _root_.id)) μ) : wp (gAny [.lst xs] μ) Q := by
  simp only [gAny, lsOf_lst, e]
  exact h

theorem lcP {src : Src} {xs : List AV} {g : AG} {tt : AT} {te : AE} {p : AV → Bool} {f : AV → AV} {ρ : Loc} {μ : Store} {QL : List AV → Store → Prop} (hs : ∀ i, src.at i μ = some xs[i]?) (hz : xs.length ≤ 100000)
    (h : ∀ x ∈ xs, ∃ ρ1, g x ρ = some ρ1 ∧ wp (tt ρ1 μ) fun b τ => τ = μ ∧ b = p x ∧ (p x = true → wp (te ρ1 μ) fun y τ => τ = μ ∧ y = f x)) (hq : QL ((xs.filter p).map f) μ) :
    wp (lcF g tt te src FUEL 0 ρ [] μ) QL := by
  have go : ∀ (m i : Nat) (acc : List AV), xs.length - i < m → i ≤ xs.length → acc.length ≤ i → QL (acc ++ ((xs.drop i).filter p).map f) μ → wp (lcF g tt te src m i ρ acc μ) QL := by
    intro m
    induction m with
    | zero => exact fun i acc hm => absurd hm (Nat.not_lt_zero _)
    | succ m ih =>
      intro i acc hm hi hl hq
      unfold lcF
      rw [hs i]
      cases e : xs[i]? with
      | none =>
        have : xs.length ≤ i := List.getElem?_eq_none_iff.mp e
        rw [List.drop_eq_nil_of_le this] at hq
        simpa using hq
      | some v =>
        have hlt : i < xs.length := (List.getElem?_eq_some_iff.mp e).1
        have ed : xs.drop i = v :: xs.drop (i + 1) := by
          rw [List.drop_eq_getElem_cons hlt]
          congr 1
          exact (List.getElem?_eq_some_iff.mp e).2
        obtain ⟨ρ1, eg, ht⟩ := h v (List.mem_of_getElem? e)
        simp only [eg]
        obtain ⟨b, τ, eb, rfl, rfl, hte⟩ := ht.elim
        rw [eb]
        simp only [Res.nox_ok, Res.bind_ok]
        rw [ed, List.filter_cons] at hq
        cases hp : p v with
        | false =>
          rw [hp] at hq
          exact ih (i + 1) acc (by omega) (by omega) (by omega) (by simpa using hq)
        | true =>
          rw [hp, if_pos rfl, List.map_cons] at hq
          obtain ⟨y, τ2, ey, rfl, rfl⟩ := (hte hp).elim
          rw [if_pos rfl, ey]
          simp only [Res.nox_ok, Res.bind_ok]
          rw [if_pos (by omega)]
          exact ih (i + 1) _ (by omega) (by omega) (by simp; omega) (by simpa using hq)
  exact go FUEL 0 [] (by unfold FUEL; omega) (by omega) (Nat.le_refl _) (by simpa using hq)

theorem w_anyLs {r : AE} {ρ : Loc} {μ : Store} {QS : Src → Store → Prop} (h : wp (r ρ μ) fun x μ1 => ∃ xs, lsOf μ1 x = some xs ∧ ∀ src : Src, (∀ i, src.at i μ1 = some xs[i]?) → QS src μ1) : wp (iAny r ρ μ) QS := by
  unfold iAny
  rw [wp_bind]
  refine h.mono fun x μ1 h => ?_
  obtain ⟨xs, e, h⟩ := h
  cases x <;> first | (cases e; done) | skip
  · cases e
    exact h _ fun i => rfl
  · rename_i n
    simp only [lsOf] at e
    cases q : μ1[n]? with
    | none => rw [q] at e; cases e
    | some o =>
      rw [q] at e
      cases o <;> first | (cases e; done) | skip
      cases e
      simp only [q]
      exact h (.live n) fun i => by simp only [Src.at, q]
theorem gIs_non {x : AV} {μ : Store} {Q : AV → Store → Prop} {b : Bool} (e : gIs x .non μ = .ok (.bl b) μ) (h : Q (.bl b) μ) : wp (gIs x .non μ) Q := by
  rw [e]
  exact h
end Lr

namespace Lr
open PySem PySem.Spec L2
theorem o_aug {ρ : Loc} {μ : Store} {D : Kt} {i : Nat} {r : AE} {x : Int} (e : ρ[i]? = some (some (.int x))) (h : wp (r ρ μ) fun y μ1 => ∃ j, y = .int j ∧ D.nx (ρ.set i (some (.int (x + j)))) μ1) : wo (sAug i gIAdd r ρ μ) D := by
  unfold sAug
  rw [e]
  simp only
  rw [wo_out]
  refine h.mono fun y μ1 h => ?_
  obtain ⟨j, rfl, h⟩ := h
  exact h
theorem w_lenD {n : Nat} {kvs : List (Key × AV)} {μ : Store} {Q : AV → Store → Prop} (e : μ[n]? = some (.dct kvs)) (h : Q (.int kvs.length) μ) : wp (gLenD [.loc n] μ) Q := by
  simp only [gLenD, stD_o e]
  exact h
theorem pv_one {p : Option AV × Nat} (h : p.1.isSome = true) : ∃ x, p.1 = some x ∧ pv p = .tup [x, .int (p.2 : Nat)] := by
  obtain ⟨x, e⟩ := Option.isSome_iff_exists.mp h
  exact ⟨x, e, by unfold pv; rw [e]; rfl⟩
theorem bls_map3 {γ : Type} (g : γ → AV) (f : γ → Bool) : ∀ xs : List γ, (xs.map fun x => AV.bl (f x)) = xs.map fun x => AV.bl (f x) := fun _ => rfl
def LProgOk (f : Fn) : Prop := ∀ v, Th v → sz v ≤ 60000 → Pure1 f [v] (.bl (progB v))
def hdB : AV → Bool
  | .tup [y, _] => oneB y
  | _ => false
def hdV : AV → AV
  | .tup [y, _] => y
  | _ => .non
def chB : AV → Bool
  | .tup [y, .int d] => isNon y || decide (8 < d)
  | _ => false

theorem ones_map {L : List (Option AV × Nat)} (h : ∀ p ∈ L, p.1.isSome = true) : ((L.map pv).filter hdB).map hdV = onesV L := by
  unfold onesV
  induction L with
  | nil => rfl
  | cons p L ih =>
    obtain ⟨x, e, ep⟩ := pv_one (h p List.mem_cons_self)
    have ih := ih fun q hq => h q (List.mem_cons_of_mem _ hq)
    rw [List.map_cons, List.filterMap_cons, ep, e]
    simp only
    by_cases hx : oneB x = true
    · rw [List.filter_cons_of_pos (p := hdB) (a := .tup [x, .int (p.2 : Nat)]) hx, List.filter_cons_of_pos (p := oneB) hx, List.map_cons, ih]
      rfl
    · rw [List.filter_cons_of_neg (p := hdB) (a := .tup [x, .int (p.2 : Nat)]) hx, List.filter_cons_of_neg (p := oneB) hx]
      exact ih
theorem allP_sz : ∀ (k : Nat) (v : AV) (d : Nat), ∀ p ∈ allP k v d, ∀ x, p.1 = some x → sz x ≤ sz v
  | 0, v, d, p, hp, x, e => by
    rw [List.mem_singleton.mp hp] at e
    cases e
  | k + 1, v, d, p, hp, x, e => by
    unfold allP at hp
    split at hp
    · rw [List.mem_singleton.mp hp] at e
      cases e
      exact Nat.le_refl _
    · split at hp
      · rename_i h
        rw [Bool.and_eq_true] at h
        rcases List.mem_cons.mp hp with hp | hp
        · rw [hp] at e
          cases e
          exact Nat.le_refl _
        · obtain ⟨q, hq, hp⟩ := List.mem_flatMap.mp hp
          have h1 := allP_sz k q (d + 1) p hp x e
          have h2 := szL_mem hq
          have h3 := parts_sz h.1
          omega
      · rw [List.mem_singleton.mp hp] at e
        cases e
theorem allP_non : ∀ (k : Nat) (v : AV) (d : Nat), ∀ p ∈ allP k v d, ∀ x, p.1 = some x → isNon x = false
  | 0, v, d, p, hp, x, e => by
    rw [List.mem_singleton.mp hp] at e
    cases e
  | k + 1, v, d, p, hp, x, e => by
    unfold allP at hp
    split at hp
    · rename_i ho
      rw [List.mem_singleton.mp hp] at e
      cases e
      obtain ⟨a, e, _⟩ := one_inv ho
      rw [e]
      rfl
    · split at hp
      · rename_i h
        rw [Bool.and_eq_true] at h
        rcases List.mem_cons.mp hp with hp | hp
        · rw [hp] at e
          cases e
          obtain ⟨a, b, e, _⟩ := comp_inv h.1
          rw [e]
          rfl
        · obtain ⟨q, hq, hp⟩ := List.mem_flatMap.mp hp
          exact allP_non k q (d + 1) p hp x e
      · rw [List.mem_singleton.mp hp] at e
        cases e
theorem chB_ok {p : Option AV × Nat} (h : ∀ x, p.1 = some x → isNon x = false) : chB (pv p) = !okP p := by
  unfold pv okP
  cases e : p.1 with
  | none => rfl
  | some x =>
    show (isNon x || decide (8 < ((p.2 : Nat) : Int))) = !(true && decide (p.2 ≤ 8))
    rw [h x e, Bool.false_or, Bool.true_and, ← decide_not]
    exact decide_eq_decide.mpr (by omega)
theorem nmsV_cut {x : AV} (h : oneB x = true) : ∃ a, x = .tup (.str a :: (nmsV x).map AV.str) ∧ cutA (AV.str a :: (nmsV x).map AV.str) (some 1) none = (nmsV x).map AV.str := by
  obtain ⟨a, e, _⟩ := one_inv h
  exact ⟨a, e, cut_tl⟩
theorem lprog_ok (T : Nat → Fn) (h1 : OneOk (T i11_law_is_one)) (h2 : AllOk (T i12_law_all_parts) 21) : LProgOk (fnR 7 1 (m18_law_is_program T)) := fun v hv hz => Pure1.of' rfl fun μ => by
  have hlen := (allP_len 21 v 1).2
  have hth := allP_th 21 v 1 hv
  have hnn := allP_non 21 v 1
  have hsz := allP_sz 21 v 1
  simp only [startA_s, List.map_cons, List.map_nil, List.length_cons, List.length_nil, Nat.reduceAdd, Nat.reduceSub, List.replicate_succ, List.replicate_zero, List.cons_append, List.nil_append]
  unfold m18_law_is_program
  refine o_seq2 (fun ρ1 σ => μ <+: σ ∧ ∃ r, lsOf σ r = some ((allP 21 v 1).map pv) ∧ ρ1 = [some v, some r, none, none, none, none, none]) ?_ ?_
  · (decreasing_trivial; repeat ((first | (with_reducible (refine w_len (by simp; done) ?_)) | (with_reducible (refine w_pow (by decide) (by decide) (by decide) ?_)) | fail); decreasing_trivial))
    refine (h2 v 1 hv hz (by omega) μ).mono fun r σ ⟨pre, e⟩ => ?_
    exact ⟨pre, r, e, rfl⟩
  · rintro ρ1 σ ⟨pre, r, er, rfl⟩
    have eB : progB v = (decide ((allP 21 v 1).length ≤ 60) && (allP 21 v 1).all okP && decide ((onesV (allP 21 v 1)).length ≤ 40) && decide ((keysV (onesV (allP 21 v 1))).length ≤ 8)) := rfl
    generalize allP 21 v 1 = L at *
    refine o_seq2 (fun ρ1 τ => τ = σ ∧ L.length ≤ 60 ∧ L.all okP = true ∧ ρ1 = [some v, some r, none, none, none, none, none]) ?_ ?_
    · (decreasing_trivial; repeat ((first | (with_reducible (refine w_len (by simp; done) ?_)) | (with_reducible (refine w_pow (by decide) (by decide) (by decide) ?_)) | fail); decreasing_trivial))
      refine w_lenLs er ?_
      (decreasing_trivial; repeat ((first | (with_reducible (refine w_len (by simp; done) ?_)) | (with_reducible (refine w_pow (by decide) (by decide) (by decide) ?_)) | fail); decreasing_trivial))
      rw [List.length_map]
      refine ite_k (fun h => ?_) (fun h => ?_)
      · have h := of_decide_eq_true h
        (decreasing_trivial; repeat ((first | (with_reducible (refine w_len (by simp; done) ?_)) | (with_reducible (refine w_pow (by decide) (by decide) (by decide) ?_)) | fail); decreasing_trivial))
        refine ⟨pre, rfl, ?_⟩
        rw [eB, decide_eq_false (show ¬ L.length ≤ 60 by omega), Bool.false_and, Bool.false_and, Bool.false_and]
      · have h := of_decide_eq_false h
        (decreasing_trivial; repeat ((first | (with_reducible (refine w_len (by simp; done) ?_)) | (with_reducible (refine w_pow (by decide) (by decide) (by decide) ?_)) | fail); decreasing_trivial))
        refine w_anyLs ?_
        (decreasing_trivial; repeat ((first | (with_reducible (refine w_len (by simp; done) ?_)) | (with_reducible (refine w_pow (by decide) (by decide) (by decide) ?_)) | fail); decreasing_trivial))
        refine ⟨_, er, fun src hs => ?_⟩
        refine lcP (p := fun _ => true) (f := fun x => .bl (chB x)) hs (by rw [List.length_map]; omega) (fun x hx => ?_) ?_
        · obtain ⟨p, hp, rfl⟩ := List.mem_map.mp hx
          refine ⟨_, rfl, rfl, rfl, fun _ => ?_⟩
          (decreasing_trivial; repeat ((first | (with_reducible (refine w_len (by simp; done) ?_)) | (with_reducible (refine w_pow (by decide) (by decide) (by decide) ?_)) | fail); decreasing_trivial))
          refine ⟨_, rfl, ?_⟩
          show if isNon (p.1.getD .non) = true then _ else _
          refine ite_k (fun h3 => ?_) (fun h3 => ?_)
          · exact ⟨rfl, by simp only [pv, chB, h3, Bool.true_or]⟩
          · (decreasing_trivial; repeat ((first | (with_reducible (refine w_len (by simp; done) ?_)) | (with_reducible (refine w_pow (by decide) (by decide) (by decide) ?_)) | fail); decreasing_trivial))
            exact ⟨rfl, by simp only [pv, chB, h3, Bool.false_or]⟩
        · have ef : ((L.map pv).filter fun _ => true) = L.map pv := List.filter_eq_self.mpr fun _ _ => rfl
          rw [ef]
          refine w_any (bls_map2 chB _) ?_
          refine ⟨_, rfl, ?_⟩
          have ea : ((L.map pv).map chB).any _root_.id = !(L.all okP) := by
            rw [List.map_map, List.any_map, List.not_all_eq_any_not, Bool.eq_iff_iff, List.any_eq_true, List.any_eq_true]
            constructor
            · rintro ⟨p, hp, h⟩
              exact ⟨p, hp, by rw [← chB_ok (hnn p hp)]; exact h⟩
            · rintro ⟨p, hp, h⟩
              exact ⟨p, hp, by show chB (pv p) = true; rw [chB_ok (hnn p hp)]; exact h⟩
          rw [ea]
          refine ite_k (fun h3 => ?_) (fun h3 => ?_)
          · have h3 : L.all okP = false := by simpa using h3
            (decreasing_trivial; repeat ((first | (with_reducible (refine w_len (by simp; done) ?_)) | (with_reducible (refine w_pow (by decide) (by decide) (by decide) ?_)) | fail); decreasing_trivial))
            refine ⟨pre, rfl, ?_⟩
            rw [eB, h3, Bool.and_false, Bool.false_and, Bool.false_and]
          · have h3 : L.all okP = true := by simpa using h3
            (decreasing_trivial; repeat ((first | (with_reducible (refine w_len (by simp; done) ?_)) | (with_reducible (refine w_pow (by decide) (by decide) (by decide) ?_)) | fail); decreasing_trivial))
            exact ⟨rfl, by omega, h3, rfl⟩
    · rintro ρ2 τ ⟨rfl, hl, hall, rfl⟩
      have hsome : ∀ p ∈ L, p.1.isSome = true := fun p hp => by
        have := List.all_eq_true.mp hall p hp
        unfold okP at this
        rw [Bool.and_eq_true] at this
        exact this.1
      have hO : ∀ i ∈ onesV L, oneB i = true ∧ Th i := fun i hi => by
        unfold onesV at hi
        obtain ⟨hi, ho⟩ := List.mem_filter.mp hi
        obtain ⟨p, hp, e⟩ := List.mem_filterMap.mp hi
        exact ⟨ho, hth p hp i e⟩
      have hOl : (onesV L).length ≤ 60 := by
        unfold onesV
        exact Nat.le_trans (List.length_filter_le _ _) (Nat.le_trans (List.length_filterMap_le _ _) hl)
      refine o_seq2 (fun ρ1 τ2 => μ <+: τ2 ∧ μ.length ≤ τ.length ∧ τ2[τ.length]? = some (.dct []) ∧ ρ1 = [some v, some r, some (.lst (onesV L)), some (.loc τ.length), none, none, none]) ?_ ?_
      · (decreasing_trivial; repeat ((first | (with_reducible (refine w_len (by simp; done) ?_)) | (with_reducible (refine w_pow (by decide) (by decide) (by decide) ?_)) | fail); decreasing_trivial))
        refine w_anyLs ?_
        (decreasing_trivial; repeat ((first | (with_reducible (refine w_len (by simp; done) ?_)) | (with_reducible (refine w_pow (by decide) (by decide) (by decide) ?_)) | fail); decreasing_trivial))
        refine ⟨_, er, fun src hs => ?_⟩
        refine lcP (p := hdB) (f := hdV) hs (by rw [List.length_map]; omega) (fun x hx => ?_) ?_
        · obtain ⟨p, hp, rfl⟩ := List.mem_map.mp hx
          obtain ⟨y, e, ep⟩ := pv_one (hsome p hp)
          rw [ep]
          have ty := hth p hp y e
          refine ⟨_, rfl, ?_⟩
          (decreasing_trivial; repeat ((first | (with_reducible (refine w_len (by simp; done) ?_)) | (with_reducible (refine w_pow (by decide) (by decide) (by decide) ?_)) | fail); decreasing_trivial))
          refine (h1 y ty (fun xs e2 => ?_) τ).mono fun u σ ⟨e1, e2⟩ => ?_
          · exact th_len (Nat.le_trans (hsz p hp y e) hz) xs e2
          · subst e1 e2
            refine ⟨_, rfl, rfl, rfl, fun _ => ?_⟩
            (decreasing_trivial; repeat ((first | (with_reducible (refine w_len (by simp; done) ?_)) | (with_reducible (refine w_pow (by decide) (by decide) (by decide) ?_)) | fail); decreasing_trivial))
            exact ⟨rfl, rfl⟩
        · rw [ones_map hsome]
          (decreasing_trivial; repeat ((first | (with_reducible (refine w_len (by simp; done) ?_)) | (with_reducible (refine w_pow (by decide) (by decide) (by decide) ?_)) | fail); decreasing_trivial))
          exact ⟨pre_push pre, pre.length_le, by simp, rfl⟩
      · rintro ρ3 τ2 ⟨pre2, hle, e2, rfl⟩
        generalize onesV L = O at *
        generalize τ.length = l at *
        refine o_seq2 (fun ρ1 τ3 => ∃ x4 x5, μ <+: τ3 ∧ τ3[l]? = some (.dct (tb (keysV O))) ∧ ρ1 = [some v, some r, some (.lst O), some (.loc l), x4, x5, none]) ?_ ?_
        · (decreasing_trivial; repeat ((first | (with_reducible (refine w_len (by simp; done) ?_)) | (with_reducible (refine w_pow (by decide) (by decide) (by decide) ?_)) | fail); decreasing_trivial))
          refine w_anyL ?_
          (decreasing_trivial; repeat ((first | (with_reducible (refine w_len (by simp; done) ?_)) | (with_reducible (refine w_pow (by decide) (by decide) (by decide) ?_)) | fail); decreasing_trivial))
          refine wo_dat (fun i ρ τ3 => ∃ x4 x5, ρ = [some v, some r, some (.lst O), some (.loc l), x4, x5, none] ∧ μ <+: τ3 ∧ τ3[l]? = some (.dct (tb (keysV (O.take i))))) ?_ ?_ FUEL 0 _ _ (by unfold FUEL; omega) (by omega) ⟨_, _, rfl, pre2, e2⟩
          · rintro ρ τ3 ⟨x4, x5, rfl, pre3, e3⟩
            rw [List.take_length] at e3
            exact ⟨_, _, pre3, e3, rfl⟩
          · rintro i p ρ τ3 hp ⟨x4, x5, rfl, pre3, e3⟩
            have hm := hO p (List.mem_of_getElem? hp)
            obtain ⟨a, ea, ecut⟩ := nmsV_cut hm.1
            obtain ⟨_, _, hwl⟩ := one_inv hm.1
            have kl := keysV_len (is := O.take i) fun j hj => hO j (List.mem_of_mem_take hj)
            refine ⟨_, rfl, ?_⟩
            (decreasing_trivial; repeat ((first | (with_reducible (refine w_len (by simp; done) ?_)) | (with_reducible (refine w_pow (by decide) (by decide) (by decide) ?_)) | fail); decreasing_trivial))
            refine w_anyT ?_
            (decreasing_trivial; repeat ((first | (with_reducible (refine w_len (by simp; done) ?_)) | (with_reducible (refine w_pow (by decide) (by decide) (by decide) ?_)) | fail); decreasing_trivial))
            refine ⟨_, ea, ?_⟩
            (decreasing_trivial; repeat ((first | (with_reducible (refine w_len (by simp; done) ?_)) | (with_reducible (refine w_pow (by decide) (by decide) (by decide) ?_)) | fail); decreasing_trivial))
            rw [ecut]
            refine wo_dat (fun j ρ τ4 => ∃ x5, ρ = [some v, some r, some (.lst O), some (.loc l), some p, x5, none] ∧ μ <+: τ4 ∧ τ4[l]? = some (.dct (tb (((nmsV p).take j).foldl addK (keysV (O.take i))))) ∧ j ≤ (nmsV p).length) ?_ ?_ FUEL 0 _ _ (by rw [List.length_map]; unfold FUEL; omega) (by omega) ⟨_, rfl, pre3, e3, by omega⟩
            · rintro ρ τ4 ⟨x5, rfl, pre4, e4, _⟩
              rw [List.length_map, List.take_length, ← keysV_take hp] at e4
              exact ⟨_, _, rfl, pre4, e4⟩
            · rintro j y ρ τ4 hy ⟨x5, rfl, pre4, e4, hj⟩
              rw [List.getElem?_map] at hy
              obtain ⟨x, hx, rfl⟩ := Option.map_eq_some_iff.mp hy
              refine ⟨_, rfl, ?_⟩
              (decreasing_trivial; repeat ((first | (with_reducible (refine w_len (by simp; done) ?_)) | (with_reducible (refine w_pow (by decide) (by decide) (by decide) ?_)) | fail); decreasing_trivial))
              refine ⟨l, _, .inr x, rfl, rfl, e4, ?_, _, rfl, pre_set pre4 hle, ?_, (List.getElem?_eq_some_iff.mp hx).1⟩
              · rw [tb_len]
                have := foldK_len ((nmsV p).take j) (keysV (O.take i))
                have : ((nmsV p).take j).length ≤ (nmsV p).length := by rw [List.length_take]; omega
                omega
              · rw [List.getElem?_set_self (List.getElem?_eq_some_iff.mp e4).1, tb_put, List.take_add_one, hx, List.foldl_append]
                rfl
        · rintro ρ4 τ3 ⟨x4, x5, pre3, e3, rfl⟩
          rw [eB, decide_eq_true hl, hall, Bool.and_self, Bool.true_and]
          (decreasing_trivial; repeat ((first | (with_reducible (refine w_len (by simp; done) ?_)) | (with_reducible (refine w_pow (by decide) (by decide) (by decide) ?_)) | fail); decreasing_trivial))
          have e40 : decide ((O.length : Int) ≤ 40) = decide (O.length ≤ 40) := decide_eq_decide.mpr (by omega)
          rw [e40]
          refine ite_k (fun h3 => ?_) (fun h3 => ?_)
          · rw [h3, Bool.true_and]
            (decreasing_trivial; repeat ((first | (with_reducible (refine w_len (by simp; done) ?_)) | (with_reducible (refine w_pow (by decide) (by decide) (by decide) ?_)) | fail); decreasing_trivial))
            refine w_lenD e3 ?_
            (decreasing_trivial; repeat ((first | (with_reducible (refine w_len (by simp; done) ?_)) | (with_reducible (refine w_pow (by decide) (by decide) (by decide) ?_)) | fail); decreasing_trivial))
            rw [tb_len]
            refine ⟨pre3, rfl, ?_⟩
            congr 1
            exact decide_eq_decide.mpr (by omega)
          · rw [h3, Bool.false_and]
            exact ⟨pre3, rfl, rfl⟩
end Lr

namespace Lr
open PySem PySem.Spec L2
theorem sort_len {xs : List Str} : (sortS xs).length = xs.length := (List.mergeSort_perm xs leS).length_eq
theorem pure_at {k m : Nat} {b : AS} {as : List AV} {r : AV} {μ : Store} (hl : as.length = m) (h : wo (b (startA k as) μ) { rt := fun v σ => μ <+: σ ∧ pure? v = true ∧ v = r }) : wp (fnR k m b as μ) fun v σ => v = r ∧ σ = μ := by
  refine fn_wp hl (h.mono (fun _ _ h => False.elim h) (fun v σ ⟨h1, h2, h3⟩ => ?_) (fun _ _ h => False.elim h) (fun _ _ h => False.elim h))
  exact ⟨h2, (gcOk_pre h1).1, h3, (gcOk_pre h1).2⟩
def WordsVOk (f : Fn) : Prop := ∀ (l : Nat) (F : List AV), (∀ i ∈ F, oneB i = true ∧ Th i) → F.length ≤ 100000 → ∀ μ : Store, μ[l]? = some (.lst F) → wp (f [.loc l] μ) fun v σ => v = .tup ((sortS (keysV F)).map AV.str) ∧ σ = μ
theorem wordsv_ok (T : Nat → Fn) : WordsVOk (fnR 4 1 (m21_words_of T)) := fun l F his hz μ el => by
  refine pure_at rfl ?_
  have hk : ∀ j, (keysV (F.take j)).length ≤ 33 := fun j => keysV_len fun i hi => his i (List.mem_of_mem_take hi)
  have hll := (List.getElem?_eq_some_iff.mp el).1
  simp only [startA_s, List.map_cons, List.map_nil, List.length_cons, List.length_nil, Nat.reduceAdd, Nat.reduceSub, List.replicate_succ, List.replicate_zero, List.cons_append, List.nil_append]
  unfold m21_words_of
  (decreasing_trivial; repeat ((first | (with_reducible (refine w_len (by simp; done) ?_)) | (with_reducible (refine w_pow (by decide) (by decide) (by decide) ?_)) | fail); decreasing_trivial))
  refine w_anyO ?_
  (decreasing_trivial; repeat ((first | (with_reducible (refine w_len (by simp; done) ?_)) | (with_reducible (refine w_pow (by decide) (by decide) (by decide) ?_)) | fail); decreasing_trivial))
  refine ⟨l, F, rfl, by rw [List.getElem?_append_left hll]; exact el, ?_⟩
  refine wo_live (xs := F) (fun i ρ τ => ∃ x2 x3, ρ = [some (.loc l), some (.loc μ.length), x2, x3] ∧ μ <+: τ ∧ τ[μ.length]? = some (.dct (tb (keysV (F.take i))))) (fun i ρ τ h => by obtain ⟨_, _, _, pre, _⟩ := h; exact pre_get pre el) ?_ ?_ FUEL 0 _ _ (by unfold FUEL; omega) (by omega) ⟨_, _, rfl, List.prefix_append _ _, by simp; rfl⟩
  · rintro ρ τ ⟨x2, x3, rfl, pre, e3⟩
    rw [List.take_length] at e3
    (decreasing_trivial; repeat ((first | (with_reducible (refine w_len (by simp; done) ?_)) | (with_reducible (refine w_pow (by decide) (by decide) (by decide) ?_)) | fail); decreasing_trivial))
    refine w_sortD e3 (tb_keys _) (by have := hk F.length; rw [List.take_length] at this; omega) ?_
    (decreasing_trivial; repeat ((first | (with_reducible (refine w_len (by simp; done) ?_)) | (with_reducible (refine w_pow (by decide) (by decide) (by decide) ?_)) | fail); decreasing_trivial))
    exact ⟨pre, by simpa [pure?] using pure_strs _, rfl⟩
  · rintro i p ρ τ hp ⟨x2, x3, rfl, pre, e3⟩
    have hm := his p (List.mem_of_getElem? hp)
    obtain ⟨a, ea, ecut⟩ := nmsV_cut hm.1
    obtain ⟨_, _, hwl⟩ := one_inv hm.1
    refine ⟨_, rfl, ?_⟩
    have hlt := (List.getElem?_eq_some_iff.mp e3).1
    (decreasing_trivial; repeat ((first | (with_reducible (refine w_len (by simp; done) ?_)) | (with_reducible (refine w_pow (by decide) (by decide) (by decide) ?_)) | fail); decreasing_trivial))
    refine ⟨by simp [isDc, stD, e3], ?_⟩
    (decreasing_trivial; repeat ((first | (with_reducible (refine w_len (by simp; done) ?_)) | (with_reducible (refine w_pow (by decide) (by decide) (by decide) ?_)) | fail); decreasing_trivial))
    refine w_anyT ?_
    (decreasing_trivial; repeat ((first | (with_reducible (refine w_len (by simp; done) ?_)) | (with_reducible (refine w_pow (by decide) (by decide) (by decide) ?_)) | fail); decreasing_trivial))
    refine ⟨_, ea, ?_⟩
    (decreasing_trivial; repeat ((first | (with_reducible (refine w_len (by simp; done) ?_)) | (with_reducible (refine w_pow (by decide) (by decide) (by decide) ?_)) | fail); decreasing_trivial))
    rw [ecut]
    refine wp_dc (fun j acc σ => σ = τ ∧ acc = tb (((nmsV p).take j).foldl addK []) ∧ j ≤ (nmsV p).length) ?_ ?_ FUEL 0 _ _ (by rw [List.length_map]; unfold FUEL; omega) (by omega) ⟨rfl, rfl, by omega⟩
    · rintro acc σ ⟨rfl, rfl, _⟩
      rw [List.length_map, List.take_length]
      have e4 : (σ ++ [AO.dct (tb ((nmsV p).foldl addK []))])[μ.length]? = some (.dct (tb (keysV (F.take i)))) := by rw [List.getElem?_append_left hlt]; exact e3
      have e5 : (σ ++ [AO.dct (tb ((nmsV p).foldl addK []))])[σ.length]? = some (.dct (tb ((nmsV p).foldl addK []))) := by simp
      (decreasing_trivial; repeat ((first | (with_reducible (refine w_len (by simp; done) ?_)) | (with_reducible (refine w_pow (by decide) (by decide) (by decide) ?_)) | fail); decreasing_trivial))
      have l1 := foldK_len (nmsV p) []
      refine ⟨μ.length, _, σ.length, _, rfl, rfl, e4, e5, by omega, by rw [tb_len, tb_len]; have := hk i; simp at l1; omega, ?_⟩
      refine ⟨_, _, rfl, pre_set (pre_push pre) (Nat.le_refl _), ?_⟩
      rw [List.getElem?_set_self (List.getElem?_eq_some_iff.mp e4).1, tb_merge, foldK_foldK, keysV_take hp]
    · rintro j y acc σ hy ⟨rfl, rfl, hj⟩
      rw [List.getElem?_map] at hy
      obtain ⟨x, hx, rfl⟩ := Option.map_eq_some_iff.mp hy
      refine ⟨_, rfl, ?_⟩
      (decreasing_trivial; repeat ((first | (with_reducible (refine w_len (by simp; done) ?_)) | (with_reducible (refine w_pow (by decide) (by decide) (by decide) ?_)) | fail); decreasing_trivial))
      refine ⟨?_, rfl, ?_, (List.getElem?_eq_some_iff.mp hx).1⟩
      · rw [tb_len]
        have := foldK_len ((nmsV p).take j) []
        have : ((nmsV p).take j).length ≤ (nmsV p).length := by rw [List.length_take]; omega
        simp only [List.length_nil] at *
        omega
      · rw [tb_put, List.take_add_one, hx, List.foldl_append]
        rfl

def sv (p : AV × Nat) : AV := .tup [p.1, .int (p.2 : Nat)]
def flatS (S : List (AV × Nat)) : List (Option AV × Nat) := S.flatMap fun p => allP (22 - p.2) p.1 p.2
def resB (c : Nat) (F : List AV) (S : List (AV × Nat)) : Bool := decide (c + (flatS S).length ≤ 60) && (flatS S).all okP && decide ((F ++ onesV (flatS S)).length ≤ 40) && decide ((keysV (F ++ onesV (flatS S))).length ≤ 8)
theorem flatS_app (a b : List (AV × Nat)) : flatS (a ++ b) = flatS a ++ flatS b := by simp [flatS]
theorem flatS_one (v : AV) (d : Nat) : flatS [(v, d)] = allP (22 - d) v d := by simp [flatS]
theorem flatS_le (S : List (AV × Nat)) : S.length ≤ (flatS S).length := by
  induction S with
  | nil => simp
  | cons p S ih =>
    have := (allP_len (22 - p.2) p.1 p.2).1
    unfold flatS at ih ⊢
    rw [List.flatMap_cons, List.length_append, List.length_cons]
    omega
theorem flatS_parts (ps : List AV) (d : Nat) (hd : d ≤ 8) : flatS (ps.map fun p => (p, d + 1)) = ps.flatMap fun p => allP (21 - d) p (d + 1) := by
  unfold flatS
  rw [List.flatMap_map]
  congr 1
  funext p
  show allP (22 - (d + 1)) p (d + 1) = _
  rw [show 22 - (d + 1) = 21 - d by omega]
theorem allP_head (k : Nat) (v : AV) (d : Nat) : ∃ o r, allP k v d = (o, d) :: r := by
  cases k with
  | zero => exact ⟨_, _, rfl⟩
  | succ k =>
    unfold allP
    split
    · exact ⟨_, _, rfl⟩
    · split <;> exact ⟨_, _, rfl⟩
theorem resB_perm {c c' : Nat} {F F' : List AV} {S S' : List (AV × Nat)} (h1 : c + (flatS S).length = c' + (flatS S').length) (h2 : (flatS S).all okP = (flatS S').all okP) (h3 : (F ++ onesV (flatS S)).length = (F' ++ onesV (flatS S')).length) (h4 : ∀ i, i ∈ F ++ onesV (flatS S) ↔ i ∈ F' ++ onesV (flatS S')) : resB c F S = resB c' F' S' := by
  unfold resB
  rw [h1, h2, h3, keysV_perm h4]

theorem resB_one {c : Nat} {F : List AV} {S : List (AV × Nat)} {v : AV} {d : Nat} (h : oneB v = true) (hd : d ≤ 8) : resB (c + 1) (F ++ [v]) S = resB c F (S ++ [(v, d)]) := by
  have e : flatS (S ++ [(v, d)]) = flatS S ++ [(some v, d)] := by
    rw [flatS_app, flatS_one, show 22 - d = (21 - d) + 1 by omega]
    simp only [allP, h, if_true]
  have eo : onesV [(some v, d)] = [v] := by simp [onesV, h]
  have ek : okP (some v, d) = true := by simp [okP, hd]
  refine resB_perm ?_ ?_ ?_ ?_
  · rw [e, List.length_append]; simp only [List.length_singleton]; omega
  · rw [e, List.all_append]; simp [ek]
  · rw [e, onesV_app, eo]; simp only [List.length_append, List.length_singleton]; omega
  · intro i
    rw [e, onesV_app, eo]
    simp only [List.mem_append, List.mem_singleton]
    rw [or_assoc, or_comm (a := i = v)]

theorem resB_comp {c : Nat} {F : List AV} {S : List (AV × Nat)} {v : AV} {d : Nat} (h : oneB v = false) (hc : compB v = true) (hd : d ≤ 8) : resB (c + 1) F (S ++ (partsV v).map fun p => (p, d + 1)) = resB c F (S ++ [(v, d)]) ∧ (flatS (S ++ [(v, d)])).length = (flatS (S ++ (partsV v).map fun p => (p, d + 1))).length + 1 := by
  have ed : decide (d ≤ 20) = true := decide_eq_true (by omega)
  have e : flatS (S ++ [(v, d)]) = flatS S ++ (some v, d) :: flatS ((partsV v).map fun p => (p, d + 1)) := by
    rw [flatS_app, flatS_one, show 22 - d = (21 - d) + 1 by omega, flatS_parts _ _ hd]
    simp only [allP, h, hc, ed, Bool.false_eq_true, if_false, Bool.and_self, if_true]
  have ek : okP (some v, d) = true := by simp [okP, hd]
  have eo : onesV ((some v, d) :: flatS ((partsV v).map fun p => (p, d + 1))) = onesV (flatS ((partsV v).map fun p => (p, d + 1))) := by simp [onesV, h]
  refine ⟨resB_perm ?_ ?_ ?_ ?_, ?_⟩
  · rw [e, flatS_app, List.length_append, List.length_append, List.length_cons]; omega
  · rw [e, flatS_app, List.all_append, List.all_append, List.all_cons, ek, Bool.true_and]
  · rw [e, flatS_app, onesV_app, onesV_app, eo]
  · intro i
    rw [e, flatS_app, onesV_app, onesV_app, eo]
  · rw [e, flatS_app, List.length_append, List.length_append, List.length_cons]; omega
theorem resB_deep {c : Nat} {F : List AV} {S : List (AV × Nat)} {v : AV} {d : Nat} (hd : 8 < d) : resB c F (S ++ [(v, d)]) = false := by
  obtain ⟨o, r, e⟩ := allP_head (22 - d) v d
  have : (flatS (S ++ [(v, d)])).all okP = false := by
    rw [flatS_app, flatS_one, e, List.all_append, List.all_cons]
    have : okP (o, d) = false := by unfold okP; rw [decide_eq_false (show ¬ d ≤ 8 by omega), Bool.and_false]
    rw [this, Bool.false_and, Bool.and_false]
  unfold resB
  rw [this, Bool.and_false, Bool.false_and, Bool.false_and]
theorem resB_many {c : Nat} {F : List AV} {S : List (AV × Nat)} {v : AV} {d : Nat} (hc : 60 < c + 1) : resB c F (S ++ [(v, d)]) = false := by
  have h1 := (allP_len (22 - d) v d).1
  unfold resB
  rw [decide_eq_false, Bool.false_and, Bool.false_and, Bool.false_and]
  rw [flatS_app, flatS_one, List.length_append]
  omega
theorem resB_bad {c : Nat} {F : List AV} {S : List (AV × Nat)} {v : AV} {d : Nat} (h : oneB v = false) (hc : compB v = false) (hd : d ≤ 8) : resB c F (S ++ [(v, d)]) = false := by
  have e : flatS (S ++ [(v, d)]) = flatS S ++ [(none, d)] := by
    rw [flatS_app, flatS_one, show 22 - d = (21 - d) + 1 by omega]
    simp only [allP, h, hc, Bool.false_eq_true, if_false, Bool.false_and]
  unfold resB
  have : (flatS S ++ [(none, d)]).all okP = false := by
    rw [List.all_append]
    simp [okP]
  rw [e, this, Bool.and_false, Bool.false_and, Bool.false_and]
def ProgBOk (f : Fn) : Prop := ∀ v, Th v → sz v ≤ 60000 → Pure1 f [v] (.bl (progB v))
theorem svs_pure {S : List (AV × Nat)} (h : ∀ p ∈ S, Th p.1) : pureL (S.map sv) = true := by
  rw [pureL_all, List.all_map, List.all_eq_true]
  intro p hp
  show pure? (sv p) = true
  simp [sv, pure?, pureL, (h p hp).pure]
theorem prog_ok (T : Nat → Fn) (h1 : OneOk (T i420_is_instruction)) (h2 : CompOk (T i421_is_composed)) (h3 : PartsVOk (T i19_parts_of)) (h4 : WordsVOk (T i21_words_of)) : ProgBOk (fnR 7 1 (m17_is_program T)) := fun v hv hz => Pure1.of' rfl fun μ => by
  have e0 : progB v = resB 0 [] [(v, 1)] := by
    unfold progB resB
    rw [flatS_one, Nat.zero_add, List.nil_append]
  have l0 := (allP_len (22 - 1) v 1).2
  simp only [startA_s, List.map_cons, List.map_nil, List.length_cons, List.length_nil, Nat.reduceAdd, Nat.reduceSub, List.replicate_succ, List.replicate_zero, List.cons_append, List.nil_append]
  unfold m17_is_program
  refine o_seq2 (fun ρ1 τ => μ <+: τ ∧ τ[μ.length]? = some (.lst [sv (v, 1)]) ∧ τ[μ.length + 1]? = some (.lst []) ∧ ρ1 = [some v, some (.loc μ.length), some (.int 0), some (.loc (μ.length + 1)), none, none, none]) ?_ ?_
  · (decreasing_trivial; repeat ((first | (with_reducible (refine w_len (by simp; done) ?_)) | (with_reducible (refine w_pow (by decide) (by decide) (by decide) ?_)) | fail); decreasing_trivial))
    refine ⟨pre_push (List.prefix_append _ _), by simp [sv], by simp, by simp⟩
  · rintro ρ1 τ ⟨pre, e1, e3, rfl⟩
    generalize hl1 : μ.length = l1 at *
    have fin : ∀ (b : Bool) (τ : Store) (x4 x5 x6 x2 : Option AV) (D : Kt), μ <+: τ → progB v = false → (∀ v' σ, (μ <+: σ ∧ pure? v' = true ∧ v' = .bl (progB v)) → D.rt v' σ) → wo (sRet (eC (.bl false)) [some v, some (.loc l1), x2, some (.loc (l1 + 1)), x4, x5, x6] τ) D := fun b τ x4 x5 x6 x2 D pre h hD => by
      (decreasing_trivial; repeat ((first | (with_reducible (refine w_len (by simp; done) ?_)) | (with_reducible (refine w_pow (by decide) (by decide) (by decide) ?_)) | fail); decreasing_trivial))
      exact hD _ _ ⟨pre, rfl, by rw [h]⟩
    refine o_seq2 (fun ρ1 τ => ∃ (c : Nat) (F : List AV) (x4 x5 x6 : Option AV), μ <+: τ ∧ τ[l1 + 1]? = some (.lst F) ∧ c ≤ 60 ∧ F.length ≤ c ∧ (∀ i ∈ F, oneB i = true ∧ Th i) ∧ resB c F [] = progB v ∧ ρ1 = [some v, some (.loc l1), some (.int c), some (.loc (l1 + 1)), x4, x5, x6]) ?_ ?_
    · (decreasing_trivial; repeat ((first | (with_reducible (refine w_len (by simp; done) ?_)) | (with_reducible (refine w_pow (by decide) (by decide) (by decide) ?_)) | fail); decreasing_trivial))
      refine wo_while (fun m ρ τ => ∃ (c : Nat) (F : List AV) (S : List (AV × Nat)) (x4 x5 x6 : Option AV), m = (flatS S).length ∧ μ <+: τ ∧ τ[l1]? = some (.lst (S.map sv)) ∧ τ[l1 + 1]? = some (.lst F) ∧ c ≤ 60 ∧ F.length ≤ c ∧ (∀ i ∈ F, oneB i = true ∧ Th i) ∧ (∀ p ∈ S, Th p.1 ∧ sz p.1 ≤ 60000) ∧ (flatS S).length ≤ 60001 ∧ resB c F S = progB v ∧ ρ = [some v, some (.loc l1), some (.int c), some (.loc (l1 + 1)), x4, x5, x6]) ?_ FUEL (flatS [(v, 1)]).length _ _ (by rw [flatS_one]; unfold FUEL; omega) ⟨0, [], [(v, 1)], none, none, none, rfl, pre, e1, e3, by omega, by simp, by simp, fun p hp => by rw [List.mem_singleton.mp hp]; exact ⟨hv, hz⟩, by rw [flatS_one]; omega, e0.symm, rfl⟩
      clear pre e1 e3
      rintro m ρ τ ⟨c, F, S, x4, x5, x6, rfl, pre, e1, e3, hc, hFl, hF, hS, hfl, hr, rfl⟩
      have ee : eqB (.loc l1) (.lst []) τ = some S.isEmpty := by
        simp only [eqB, lsOf, e1, List.length_map]
        cases S <;> simp [eqvL]
      have dd : min (depM τ (.loc l1)) (depM τ (.lst [])) ≤ 150 := by
        simp only [depM, lsOf, depL]
        omega
      (decreasing_trivial; repeat ((first | (with_reducible (refine w_len (by simp; done) ?_)) | (with_reducible (refine w_pow (by decide) (by decide) (by decide) ?_)) | fail); decreasing_trivial))
      refine w_gNe ee dd ?_
      refine ⟨_, rfl, ?_⟩
      refine ite_k (fun h => ?_) (fun h => ?_)
      · obtain ⟨S', p, rfl⟩ : ∃ S' p, S = S' ++ [p] := by
          refine ⟨S.dropLast, S.getLast (fun z => by rw [z] at h; simp at h), (List.dropLast_concat_getLast _).symm⟩
        obtain ⟨x, d⟩ := p
        have hx := hS (x, d) (by simp)
        have hS' : ∀ p ∈ S', Th p.1 ∧ sz p.1 ≤ 60000 := fun p hp => hS p (List.mem_append_left _ hp)
        have hpos := (allP_len (22 - d) x d).1
        have hflx : (flatS (S' ++ [(x, d)])).length = (flatS S').length + (allP (22 - d) x d).length := by rw [flatS_app, flatS_one, List.length_append]
        refine o_seq2 (fun ρ1 τ2 => μ <+: τ2 ∧ τ2[l1]? = some (.lst (S'.map sv)) ∧ τ2[l1 + 1]? = some (.lst F) ∧ ρ1 = [some v, some (.loc l1), some (.int c), some (.loc (l1 + 1)), some x, some (.int (d : Nat)), x6]) ?_ ?_
        · (decreasing_trivial; repeat ((first | (with_reducible (refine w_len (by simp; done) ?_)) | (with_reducible (refine w_pow (by decide) (by decide) (by decide) ?_)) | fail); decreasing_trivial))
          refine ⟨l1, _, sv (x, d), rfl, e1, ?_, ?_⟩
          · rw [List.length_map, List.getElem?_map]
            simp
          · refine ⟨_, rfl, ?_⟩
            refine ⟨pre_set pre (by omega), ?_, ?_, rfl⟩
            · rw [List.getElem?_set_self (List.getElem?_eq_some_iff.mp e1).1]
              simp
            · rw [List.getElem?_set_ne (by omega)]
              exact e3
        · clear e1 e3 pre
          rintro ρ2 τ2 ⟨pre, e1, e3, rfl⟩
          refine o_seq2 (fun ρ1 τ3 => τ3 = τ2 ∧ ρ1 = [some v, some (.loc l1), some (.int ((c + 1 : Nat) : Int)), some (.loc (l1 + 1)), some x, some (.int (d : Nat)), x6]) ?_ ?_
          · refine o_aug rfl ?_
            (decreasing_trivial; repeat ((first | (with_reducible (refine w_len (by simp; done) ?_)) | (with_reducible (refine w_pow (by decide) (by decide) (by decide) ?_)) | fail); decreasing_trivial))
            exact ⟨rfl, rfl⟩
          · rintro ρ3 τ3 ⟨rfl, rfl⟩
            refine o_seq2 (fun ρ1 τ4 => τ4 = τ3 ∧ c + 1 ≤ 60 ∧ d ≤ 8 ∧ ρ1 = [some v, some (.loc l1), some (.int ((c + 1 : Nat) : Int)), some (.loc (l1 + 1)), some x, some (.int (d : Nat)), x6]) ?_ ?_
            · (decreasing_trivial; repeat ((first | (with_reducible (refine w_len (by simp; done) ?_)) | (with_reducible (refine w_pow (by decide) (by decide) (by decide) ?_)) | fail); decreasing_trivial))
              refine ite_k (fun h5 => ?_) (fun h5 => ?_)
              · have h5 := of_decide_eq_true h5
                refine fin true τ3 (some x) (some (.int (d : Nat))) x6 (some (.int ((c + 1 : Nat) : Int))) _ pre ?_ fun v σ h => h
                rw [← hr]
                exact resB_many (by omega)
              · have h5 := of_decide_eq_false h5
                (decreasing_trivial; repeat ((first | (with_reducible (refine w_len (by simp; done) ?_)) | (with_reducible (refine w_pow (by decide) (by decide) (by decide) ?_)) | fail); decreasing_trivial))
                refine ite_k (fun h6 => ?_) (fun h6 => ?_)
                · have h6 := of_decide_eq_true h6
                  refine fin true τ3 (some x) (some (.int (d : Nat))) x6 (some (.int ((c + 1 : Nat) : Int))) _ pre ?_ fun v σ h => h
                  rw [← hr]
                  exact resB_deep (by omega)
                · have h6 := of_decide_eq_false h6
                  (decreasing_trivial; repeat ((first | (with_reducible (refine w_len (by simp; done) ?_)) | (with_reducible (refine w_pow (by decide) (by decide) (by decide) ?_)) | fail); decreasing_trivial))
                  exact ⟨rfl, by omega, by omega, rfl⟩
            · rintro ρ4 τ4 ⟨rfl, hc60, hd8, rfl⟩
              (decreasing_trivial; repeat ((first | (with_reducible (refine w_len (by simp; done) ?_)) | (with_reducible (refine w_pow (by decide) (by decide) (by decide) ?_)) | fail); decreasing_trivial))
              refine (h1 x hx.1 (th_len hx.2) τ4).mono fun u σ ⟨q1, q2⟩ => ?_
              subst q1 q2
              refine ⟨_, rfl, ?_⟩
              refine ite_k (fun ho => ?_) (fun ho => ?_)
              · have er := resB_one (c := c) (F := F) (S := S') ho hd8
                (decreasing_trivial; repeat ((first | (with_reducible (refine w_len (by simp; done) ?_)) | (with_reducible (refine w_pow (by decide) (by decide) (by decide) ?_)) | fail); decreasing_trivial))
                refine ⟨by simp [isLs, lsOf, e3], ?_⟩
                (decreasing_trivial; repeat ((first | (with_reducible (refine w_len (by simp; done) ?_)) | (with_reducible (refine w_pow (by decide) (by decide) (by decide) ?_)) | fail); decreasing_trivial))
                refine ⟨l1 + 1, F, rfl, e3, by omega, ?_⟩
                refine ⟨(flatS S').length, by omega, c + 1, F ++ [x], S', _, _, _, rfl, pre_set pre (by omega), ?_, ?_, hc60, by simp; omega, ?_, hS', by omega, er.trans hr, rfl⟩
                · rw [List.getElem?_set_ne (by omega)]
                  exact e1
                · rw [List.getElem?_set_self (List.getElem?_eq_some_iff.mp e3).1]
                · intro i hi
                  rcases List.mem_append.mp hi with hi | hi
                  · exact hF i hi
                  · rw [List.mem_singleton.mp hi]
                    exact ⟨ho, hx.1⟩
              · (decreasing_trivial; repeat ((first | (with_reducible (refine w_len (by simp; done) ?_)) | (with_reducible (refine w_pow (by decide) (by decide) (by decide) ?_)) | fail); decreasing_trivial))
                refine (h2 x hx.1 σ).mono fun u σ ⟨q1, q2⟩ => ?_
                subst q1 q2
                refine ⟨_, rfl, ?_⟩
                refine ite_k (fun hcm => ?_) (fun hcm => ?_)
                · have hcm : compB x = false := by simpa using hcm
                  refine fin true _ (some x) (some (.int (d : Nat))) x6 (some (.int ((c + 1 : Nat) : Int))) _ pre ?_ fun v σ h => h
                  rw [← hr]
                  exact resB_bad ho hcm hd8
                · have hcm : compB x = true := by simpa using hcm
                  obtain ⟨er, el⟩ := resB_comp (c := c) (F := F) (S := S') ho hcm hd8
                  have hpt := parts_th hx.1 hcm
                  have hps := parts_sz hcm
                  have hpl := sz_len (partsV x)
                  have hSl := flatS_le (S' ++ (partsV x).map fun p => (p, d + 1))
                  rw [List.length_append, List.length_map] at hSl
                  (decreasing_trivial; repeat ((first | (with_reducible (refine w_len (by simp; done) ?_)) | (with_reducible (refine w_pow (by decide) (by decide) (by decide) ?_)) | fail); decreasing_trivial))
                  refine ⟨by simp [isLs, lsOf, e1], ?_⟩
                  (decreasing_trivial; repeat ((first | (with_reducible (refine w_len (by simp; done) ?_)) | (with_reducible (refine w_pow (by decide) (by decide) (by decide) ?_)) | fail); decreasing_trivial))
                  refine w_anyT ?_
                  (decreasing_trivial; repeat ((first | (with_reducible (refine w_len (by simp; done) ?_)) | (with_reducible (refine w_pow (by decide) (by decide) (by decide) ?_)) | fail); decreasing_trivial))
                  refine (h3 x hx.1 hcm _).mono fun u σ2 ⟨q1, q2⟩ => ?_
                  subst q1 q2
                  refine ⟨_, rfl, ?_⟩
                  refine lcP (p := fun _ => true) (f := fun y => sv (y, d + 1)) (fun i => rfl) (by omega) (fun y hy => ⟨_, rfl, rfl, rfl, fun _ => ?_⟩) ?_
                  · (decreasing_trivial; repeat ((first | (with_reducible (refine w_len (by simp; done) ?_)) | (with_reducible (refine w_pow (by decide) (by decide) (by decide) ?_)) | fail); decreasing_trivial))
                    refine ⟨rfl, ?_⟩
                    show AV.tup [y, .int (((d : Nat) : Int) + 1)] = AV.tup [y, .int ((d + 1 : Nat) : Int)]
                    rw [Int.natCast_add]
                    rfl
                  · rw [List.filter_eq_self.mpr fun _ _ => rfl]
                    (decreasing_trivial; repeat ((first | (with_reducible (refine w_len (by simp; done) ?_)) | (with_reducible (refine w_pow (by decide) (by decide) (by decide) ?_)) | fail); decreasing_trivial))
                    refine ⟨l1, _, _, rfl, e1, rfl, by rw [List.length_map, List.length_map]; omega, ?_⟩
                    refine ⟨(flatS (S' ++ (partsV x).map fun p => (p, d + 1))).length, by omega, c + 1, F, S' ++ (partsV x).map fun p => (p, d + 1), _, _, _, rfl, pre_set pre (by omega), ?_, ?_, hc60, by omega, hF, ?_, by omega, er.trans hr, rfl⟩
                    · rw [List.getElem?_set_self (List.getElem?_eq_some_iff.mp e1).1, List.map_append, List.map_map]
                      rfl
                    · rw [List.getElem?_set_ne (by omega)]
                      exact e3
                    · intro p hp
                      rcases List.mem_append.mp hp with hp | hp
                      · exact hS' p hp
                      · obtain ⟨y, hy, rfl⟩ := List.mem_map.mp hp
                        have := szL_mem hy
                        exact ⟨hpt y hy, by show sz y ≤ 60000; have := hx.2; simp only at this; omega⟩
      · have hS0 : S = [] := by
          cases S with
          | nil => rfl
          | cons a b => simp at h
        subst hS0
        exact ⟨c, F, x4, x5, x6, pre, e3, hc, hFl, hF, hr, rfl⟩
    · rintro ρ2 τ2 ⟨c, F, x4, x5, x6, pre2, e3', hc, hFl, hF, hr, rfl⟩
      have er : progB v = (decide (F.length ≤ 40) && decide ((keysV F).length ≤ 8)) := by
        rw [← hr]
        unfold resB
        have : flatS [] = [] := rfl
        rw [this]
        simp [onesV, hc]
      rw [er]
      (decreasing_trivial; repeat ((first | (with_reducible (refine w_len (by simp; done) ?_)) | (with_reducible (refine w_pow (by decide) (by decide) (by decide) ?_)) | fail); decreasing_trivial))
      refine w_lenO e3' ?_
      (decreasing_trivial; repeat ((first | (with_reducible (refine w_len (by simp; done) ?_)) | (with_reducible (refine w_pow (by decide) (by decide) (by decide) ?_)) | fail); decreasing_trivial))
      have e40 : decide ((F.length : Int) ≤ 40) = decide (F.length ≤ 40) := decide_eq_decide.mpr (by omega)
      rw [e40]
      refine ite_k (fun h5 => ?_) (fun h5 => ?_)
      · rw [h5, Bool.true_and]
        (decreasing_trivial; repeat ((first | (with_reducible (refine w_len (by simp; done) ?_)) | (with_reducible (refine w_pow (by decide) (by decide) (by decide) ?_)) | fail); decreasing_trivial))
        refine (h4 (l1 + 1) F hF (by omega) τ2 e3').mono fun u σ ⟨q1, q2⟩ => ?_
        subst q1 q2
        (decreasing_trivial; repeat ((first | (with_reducible (refine w_len (by simp; done) ?_)) | (with_reducible (refine w_pow (by decide) (by decide) (by decide) ?_)) | fail); decreasing_trivial))
        rw [List.length_map, sort_len]
        refine ⟨pre2, rfl, ?_⟩
        congr 1
        exact decide_eq_decide.mpr (by omega)
      · rw [h5, Bool.false_and]
        exact ⟨pre2, rfl, rfl⟩
end Lr

namespace Lr
open PySem PySem.Spec L2
theorem fitL_rev {c d : Nat} {xs : List AV} (h : FitL c d xs) : FitL c d xs.reverse := by
  have e : ∀ ys : List AV, shL ys.reverse = shL ys ∧ szL ys.reverse = szL ys ∧ depL ys.reverse = depL ys := fun ys => by
    induction ys with
    | nil => exact ⟨rfl, rfl, rfl⟩
    | cons y ys ih =>
      rw [List.reverse_cons, shL_app, szL_app, depL_app, ih.1, ih.2.1, ih.2.2]
      simp only [shL, szL, depL, Bool.and_true, Nat.add_zero]
      exact ⟨Bool.and_comm _ _, by omega, by omega⟩
  obtain ⟨h1, h2, h3⟩ := h
  exact ⟨by rw [(e xs).1]; exact h1, by rw [(e xs).2.1]; exact h2, by rw [(e xs).2.2]; exact h3⟩
theorem fitL_cut {c d : Nat} {xs : List AV} (h : FitL c d xs) (l u : Option Int) : FitL c d (cutA xs l u) := fitL_sub h _ _
theorem cut_mem {xs : List AV} {l u : Option Int} {x : AV} (h : x ∈ cutA xs l u) : x ∈ xs := List.mem_of_mem_drop (List.mem_of_mem_take h)
theorem cut_len {xs : List AV} {l u : Option Int} : (cutA xs l u).length ≤ xs.length := by
  unfold cutA
  rw [List.length_take, List.length_drop]
  omega
def OddOk (f : Fn) : Prop := ∀ n : Nat, Draws f n [.loc n] 100 (fun v => Fit 500 30 v ∧ sS v = true)
theorem odd_ok (T : Nat → Fn) (ho : OfOk (T i3_law_of)) : OddOk (fnR 4 1 (m8_law_odd T)) := fun n => by
  refine Draws.of rfl fun μ B hb hs => ?_
  simp only [startA_s, List.map_cons, List.map_nil, List.length_cons, List.length_nil, Nat.reduceAdd, Nat.reduceSub, List.replicate_succ, List.replicate_zero, List.cons_append, List.nil_append]
  unfold m8_law_odd
  (decreasing_trivial; repeat ((first | (with_reducible (refine w_len (by simp; done) ?_)) | (with_reducible (refine w_pow (by decide) (by decide) (by decide) ?_)) | fail); decreasing_trivial))
  refine ⟨_, _, rfl, rfl, by simp, ?_⟩
  (decreasing_trivial; repeat ((first | (with_reducible (refine w_len (by simp; done) ?_)) | (with_reducible (refine w_pow (by decide) (by decide) (by decide) ?_)) | fail); decreasing_trivial))
  refine ⟨_, _, rfl, rfl, by simp, ?_⟩
  (decreasing_trivial; repeat ((first | (with_reducible (refine w_len (by simp; done) ?_)) | (with_reducible (refine w_pow (by decide) (by decide) (by decide) ?_)) | fail); decreasing_trivial))
  refine (ho n _ (by simp) (by simp) (by decide) μ B (by omega) hs).mono fun v σ ⟨s1, h1, pv, hv⟩ => ?_
  have f1 : Fit 60 4 v ∧ sS v = true := by
    simp only [List.cons_append, List.nil_append, List.append_assoc, List.mem_cons, List.not_mem_nil, or_false] at hv
    rcases hv with h | h | h | h | h | h | h | h | h | h | h | h | h | h | h | h | h | h | h | h | h | h | h | h | h | h | h | h <;> subst h <;> exact ⟨⟨by decide +kernel, by decide +kernel, by decide +kernel⟩, by decide +kernel⟩
  clear hv pv
  (decreasing_trivial; repeat ((first | (with_reducible (refine w_len (by simp; done) ?_)) | (with_reducible (refine w_pow (by decide) (by decide) (by decide) ?_)) | fail); decreasing_trivial))
  refine (ho n _ (by simp) (by simp) (by decide) σ _ (by omega) h1).mono fun v2 σ2 ⟨s2, h2, pv, hv⟩ => ?_
  obtain ⟨r, e, r1, r2⟩ : ∃ r : Int, v2 = .int r ∧ 0 ≤ r ∧ r ≤ 18 := by
    simp only [List.mem_cons, List.not_mem_nil, or_false] at hv
    rcases hv with h | h | h | h | h | h <;> exact ⟨_, h, by decide, by decide⟩
  subst e
  clear hv pv
  (decreasing_trivial; repeat ((first | (with_reducible (refine w_len (by simp; done) ?_)) | (with_reducible (refine w_pow (by decide) (by decide) (by decide) ?_)) | fail); decreasing_trivial))
  refine ⟨by omega, by omega, ?_⟩
  have hlen : (rangeL 0 r.toNat).length = r.toNat := by simp [rangeL]
  refine wo_dat (fun i ρ τ => ∃ x1 v x3, ρ = [some (.loc n), x1, some v, x3] ∧ Ext n μ τ ∧ Hst τ n (B + 1 + 1 + i) ∧ Fit (60 + 10 * i) (4 + i) v ∧ sS v = true) ?_ ?_ FUEL 0 _ _ (by unfold FUEL; omega) (by omega) ⟨_, _, _, rfl, s1.ext.step s2, h2, f1.1, f1.2⟩
  · rintro ρ τ ⟨x1, v, x3, rfl, xt, h4, ft, fi⟩
    (decreasing_trivial; repeat ((first | (with_reducible (refine w_len (by simp; done) ?_)) | (with_reducible (refine w_pow (by decide) (by decide) (by decide) ?_)) | fail); decreasing_trivial))
    rw [hlen] at ft h4
    exact ⟨ft.pure, xt, h4.le (by omega), ft.mono (by omega) (by omega), fi⟩
  · rintro i x ρ τ hx ⟨x1, v, x3, rfl, xt, h4, ft, fi⟩
    have hi : i < 18 := by
      have := (List.getElem?_eq_some_iff.mp hx).1
      rw [hlen] at this
      omega
    refine ⟨_, rfl, ?_⟩
    (decreasing_trivial; repeat ((first | (with_reducible (refine w_len (by simp; done) ?_)) | (with_reducible (refine w_pow (by decide) (by decide) (by decide) ?_)) | fail); decreasing_trivial))
    have g1 : Fit (60 + 10 * (i + 1)) (4 + (i + 1)) (.tup [v]) := (FitL.cons ft .nil).tup.mono (by omega) (by omega)
    have g2 : Fit (60 + 10 * (i + 1)) (4 + (i + 1)) (.lst [v]) := (FitL.cons ft .nil).lst.mono (by omega) (by omega)
    have g3 : Fit (60 + 10 * (i + 1)) (4 + (i + 1)) (.dct [(.str "a", v)]) := by
      obtain ⟨a1, a2, a3⟩ := ft
      have ea : sz (.str "a") = 3 := by decide +kernel
      refine ⟨by simp [sh, shD, a1], by simp only [sz, szD] at ea ⊢; omega, by simp only [dep, depD]; omega⟩
    have ha : SS.contains (Str.ofString "a") = true := by decide +kernel
    refine (ho n _ (by simp) (by simp) (by simp [pureL, pureD, pure?, ft.pure]) τ _ (by omega) h4).mono fun v2 σ2 ⟨s2, h2, pv, hv⟩ => ?_
    refine ⟨_, v2, _, rfl, xt.step s2, h2.le (by omega), ?_⟩
    simp only [List.mem_cons, List.not_mem_nil, or_false] at hv
    rcases hv with h | h | h <;> subst h
    · exact ⟨g1, by simp [sS, sSL, fi]⟩
    · exact ⟨g2, by simp [sS, sSL, fi]⟩
    · exact ⟨g3, by simp only [sS, sSD, fi, ha, Bool.and_true]⟩
def Bent1 (f : Fn) (k : Nat) : Prop := ∀ (n : Nat) (v : AV) (c d : Nat), Fit c d v → sS v = true → c ≤ 20000 → d ≤ 60 → Draws f n [.loc n, v, .int (k : Nat)] (200 * (k + 1)) (fun u => Fit (2 * c + 600) (d + 31) u ∧ sS u = true)
theorem sS_sub {xs ys : List AV} (h : sS (.tup xs) = true) (hs : ∀ x ∈ ys, x ∈ xs) : sSL ys = true := sSL_iff.mpr fun x hx => sSL_iff.mp h x (hs x hx)
theorem bent1_ok (T : Nat → Fn) (ht : TakeOk (T i2_law_take)) (ho : OfOk (T i3_law_of)) (hd0 : OddOk (T i8_law_odd)) (k : Nat) (ih : 1 ≤ k → Bent1 (T i9_law_bent) (k - 1)) : Bent1 (fnR 5 3 (m9_law_bent T)) k := fun n v c d hf hS hc hd => by
  refine Draws.of rfl fun μ B hB hs => ?_
  simp only [startA_s, List.map_cons, List.map_nil, List.length_cons, List.length_nil, Nat.reduceAdd, Nat.reduceSub, List.replicate_succ, List.replicate_zero, List.cons_append, List.nil_append]
  unfold m9_law_bent
  refine o_seq2 (fun ρ1 σ => Stp n μ σ ∧ Hst σ n (B + 1) ∧ 1 ≤ k ∧ ∃ xs, v = .tup xs ∧ xs ≠ [] ∧ ρ1 = [some (.loc n), some v, some (.int (k : Nat)), none, none]) ?_ ?_
  · have odd : ∀ (σ : Store) (C : Nat) (D : Kt), Stp n μ σ → Hst σ n C → C ≤ B + 2 → (∀ v' σ', (pure? v' = true ∧ Ext n μ σ' ∧ Hst σ' n (B + 200 * (k + 1)) ∧ Fit (2 * c + 600) (d + 31) v' ∧ sS v' = true) → D.rt v' σ') → wo (sRet (eCall (T i8_law_odd) (aCons (eVar 0) aNil)) [some (.loc n), some v, some (.int (k : Nat)), none, none] σ) D := fun σ C D s h hC hD => by
      (decreasing_trivial; repeat ((first | (with_reducible (refine w_len (by simp; done) ?_)) | (with_reducible (refine w_pow (by decide) (by decide) (by decide) ?_)) | fail); decreasing_trivial))
      refine (hd0 n σ _ (by omega) h).mono fun u σ2 ⟨s2, h2, pu, fu, su⟩ => ?_
      exact hD _ _ ⟨pu, s.ext.step s2, h2.le (by omega), fu.mono (by omega) (by omega), su⟩
    have inner : ∀ (σ : Store) (C : Nat) (D : Kt), Stp n μ σ → Hst σ n C → C ≤ B + 1 → (∀ v' σ', (pure? v' = true ∧ Ext n μ σ' ∧ Hst σ' n (B + 200 * (k + 1)) ∧ Fit (2 * c + 600) (d + 31) v' ∧ sS v' = true) → D.rt v' σ') →
        wo ((sSeq (sIf (tOrr (tNt (tTr (eCB gIsi (aCons (eVar 1) (aCons (eC (.ty "tuple")) aNil))))) (tB1 (eOp gEq (eCall (T i2_law_take) (aCons (eVar 0) (aCons (eC (.int 3)) aNil))) (eC (.int 0))))) (sRet (eCall (T i8_law_odd) (aCons (eVar 0) aNil))) sNil) (sRet (eCall (T i3_law_of) (aCons (eVar 0) (aCons (eDat (aLst (aCons (eDat (aCB gList (aCons (eVar 1) aNil))) (aCons (eRev (eVar 1)) (aCons (eOp gAdd (eVar 1) (eSl (eVar 1) (oSome (eNeg (eC (.int 1)))) oNone)) (aCons (eSl (eVar 1) oNone (oSome (eNeg (eC (.int 1))))) (aCons (eTup (aCons (eVar 1) aNil)) aNil))))))) aNil))))) [some (.loc n), some v, some (.int (k : Nat)), none, none] σ) D := fun σ C D s h hC hD => by
      refine o_seq2 (fun ρ1 τ => Stp n μ τ ∧ Hst τ n (C + 1) ∧ ∃ xs, v = .tup xs ∧ ρ1 = [some (.loc n), some v, some (.int (k : Nat)), none, none]) ?_ ?_
      · (decreasing_trivial; repeat ((first | (with_reducible (refine w_len (by simp; done) ?_)) | (with_reducible (refine w_pow (by decide) (by decide) (by decide) ?_)) | fail); decreasing_trivial))
        refine isi_tup hf.1 (fun xs e => ?_) (fun e => ?_)
        · subst e
          refine ⟨_, rfl, ?_⟩
          rw [if_neg (by simp)]
          (decreasing_trivial; repeat ((first | (with_reducible (refine w_len (by simp; done) ?_)) | (with_reducible (refine w_pow (by decide) (by decide) (by decide) ?_)) | fail); decreasing_trivial))
          refine (ht n 3 (by decide) (by decide) σ _ (by omega) h).mono fun u σ2 ⟨s2, h2, _, t, e, t0, t1⟩ => ?_
          subst e
          (decreasing_trivial; repeat ((first | (with_reducible (refine w_len (by simp; done) ?_)) | (with_reducible (refine w_pow (by decide) (by decide) (by decide) ?_)) | fail); decreasing_trivial))
          refine gEq_i ?_
          (decreasing_trivial; repeat ((first | (with_reducible (refine w_len (by simp; done) ?_)) | (with_reducible (refine w_pow (by decide) (by decide) (by decide) ?_)) | fail); decreasing_trivial))
          refine ite_k (fun h3 => ?_) (fun h3 => ?_)
          · exact odd σ2 _ _ (s.trans s2) h2 (by omega) hD
          · (decreasing_trivial; repeat ((first | (with_reducible (refine w_len (by simp; done) ?_)) | (with_reducible (refine w_pow (by decide) (by decide) (by decide) ?_)) | fail); decreasing_trivial))
            exact ⟨s.trans s2, h2, xs, rfl, rfl⟩
        · refine ⟨_, rfl, ?_⟩
          rw [if_pos (by simp)]
          exact odd σ _ _ s h (by omega) hD
      · rintro ρ1 τ ⟨s1, h1, xs, rfl, rfl⟩
        have fl := hf.of_tup
        have hd1 : 1 ≤ d := by
          have := hf.2.2
          simp only [dep] at this
          omega
        have hc3 : 3 ≤ c := by
          have := hf.2.1
          simp only [sz] at this
          omega
        have hlen : xs.length ≤ 20000 := by
          have := sz_len xs
          have := fl.2.1
          omega
        (decreasing_trivial; repeat ((first | (with_reducible (refine w_len (by simp; done) ?_)) | (with_reducible (refine w_pow (by decide) (by decide) (by decide) ?_)) | fail); decreasing_trivial))
        have lc := cut_len (xs := xs) (l := some (-1)) (u := none)
        refine w_addT (by omega) ?_
        (decreasing_trivial; repeat ((first | (with_reducible (refine w_len (by simp; done) ?_)) | (with_reducible (refine w_pow (by decide) (by decide) (by decide) ?_)) | fail); decreasing_trivial))
        have cand : ∀ u ∈ [AV.lst xs, .tup xs.reverse, .tup (xs ++ cutA xs (some (-1)) none), .tup (cutA xs none (some (-1))), .tup [.tup xs]], Fit (2 * c + 600) (d + 31) u ∧ sS u = true := by
          intro u hu
          simp only [List.mem_cons, List.not_mem_nil, or_false] at hu
          rcases hu with h | h | h | h | h <;> subst h
          · exact ⟨fl.lst.mono (by omega) (by omega), hS⟩
          · exact ⟨(fitL_rev fl).tup.mono (by omega) (by omega), sS_sub hS fun x hx => List.mem_reverse.mp hx⟩
          · refine ⟨(fl.append (fitL_cut fl _ _)).tup.mono (by omega) (by omega), sS_sub hS fun x hx => ?_⟩
            rcases List.mem_append.mp hx with h | h
            · exact h
            · exact cut_mem h
          · exact ⟨(fitL_cut fl _ _).tup.mono (by omega) (by omega), sS_sub hS fun x hx => cut_mem hx⟩
          · exact ⟨(FitL.cons hf .nil).tup.mono (by omega) (by omega), by simp only [sS, sSL, Bool.and_true]; exact hS⟩
        refine (ho n _ (by simp) (by simp) ?_ τ _ (by omega) h1).mono fun u σ2 ⟨s2, h2, pu, hv⟩ => ?_
        · rw [pureL_all, List.all_eq_true]
          exact fun u hu => (cand u hu).1.pure
        · exact hD _ _ ⟨pu, s1.ext.step s2, h2.le (by omega), cand u hv⟩
    have inner := fun σ C s h hC => inner σ C { nx := fun ρ1 σ => Stp n μ σ ∧ Hst σ n (B + 1) ∧ 1 ≤ k ∧ ∃ xs, v = .tup xs ∧ xs ≠ [] ∧ ρ1 = [some (.loc n), some v, some (.int (k : Nat)), none, none], rt := fun v σ => pure? v = true ∧ Ext n μ σ ∧ Hst σ n (B + 200 * (k + 1)) ∧ Fit (2 * c + 600) (d + 31) v ∧ sS v = true } s h hC fun v' σ' h => h
    refine o_if ?_
    (decreasing_trivial; repeat ((first | (with_reducible (refine w_len (by simp; done) ?_)) | (with_reducible (refine w_pow (by decide) (by decide) (by decide) ?_)) | fail); decreasing_trivial))
    refine isi_tup hf.1 (fun xs e => ?_) (fun e => ?_)
    · subst e
      refine ⟨_, rfl, ?_⟩
      rw [if_neg (by simp)]
      (decreasing_trivial; repeat ((first | (with_reducible (refine w_len (by simp; done) ?_)) | (with_reducible (refine w_pow (by decide) (by decide) (by decide) ?_)) | fail); decreasing_trivial))
      refine eq_nil_t ?_
      refine ⟨_, rfl, ?_⟩
      refine ite_k (fun h3 => ?_) (fun h3 => ?_)
      · rw [if_pos rfl]
        exact inner μ B (Stp.refl n μ) hs (by omega)
      · (decreasing_trivial; repeat ((first | (with_reducible (refine w_len (by simp; done) ?_)) | (with_reducible (refine w_pow (by decide) (by decide) (by decide) ?_)) | fail); decreasing_trivial))
        refine gEq_i ?_
        (decreasing_trivial; repeat ((first | (with_reducible (refine w_len (by simp; done) ?_)) | (with_reducible (refine w_pow (by decide) (by decide) (by decide) ?_)) | fail); decreasing_trivial))
        refine ite_k (fun h4 => ?_) (fun h4 => ?_)
        · rw [if_pos rfl]
          exact inner μ B (Stp.refl n μ) hs (by omega)
        · (decreasing_trivial; repeat ((first | (with_reducible (refine w_len (by simp; done) ?_)) | (with_reducible (refine w_pow (by decide) (by decide) (by decide) ?_)) | fail); decreasing_trivial))
          refine (ht n 6 (by decide) (by decide) μ B (by omega) hs).mono fun u σ2 ⟨s2, h2, _, t, e, t0, t1⟩ => ?_
          subst e
          (decreasing_trivial; repeat ((first | (with_reducible (refine w_len (by simp; done) ?_)) | (with_reducible (refine w_pow (by decide) (by decide) (by decide) ?_)) | fail); decreasing_trivial))
          refine gEq_i ?_
          refine ⟨_, rfl, ?_⟩
          refine ite_k (fun h5 => ?_) (fun h5 => ?_)
          · exact inner σ2 _ s2 h2 (by omega)
          · (decreasing_trivial; repeat ((first | (with_reducible (refine w_len (by simp; done) ?_)) | (with_reducible (refine w_pow (by decide) (by decide) (by decide) ?_)) | fail); decreasing_trivial))
            refine ⟨s2, h2, ?_, xs, rfl, fun z => by rw [z] at h3; simp at h3, rfl⟩
            have : ¬ (((k : Nat) : Int) == 0) = true := by rw [h4]; simp
            have : ((k : Nat) : Int) ≠ 0 := fun z => this (by rw [z]; rfl)
            omega
    · refine ⟨_, rfl, ?_⟩
      rw [if_pos (by simp), if_pos rfl]
      exact inner μ B (Stp.refl n μ) hs (by omega)
  · rintro ρ1 σ ⟨s1, h1, hk1, xs, rfl, hne, rfl⟩
    have hl0 : 0 < xs.length := List.length_pos_iff.mpr hne
    have fl := hf.of_tup
    have hd1 : 1 ≤ d := by
      have := hf.2.2
      simp only [dep] at this
      omega
    have hc3 : 3 ≤ c := by
      have := hf.2.1
      simp only [sz] at this
      omega
    have hlen : xs.length ≤ 20000 := by
      have := sz_len xs
      have := fl.2.1
      omega
    (decreasing_trivial; repeat ((first | (with_reducible (refine w_len (by simp; done) ?_)) | (with_reducible (refine w_pow (by decide) (by decide) (by decide) ?_)) | fail); decreasing_trivial))
    refine (ht n xs.length (by omega) (by omega) σ _ (by omega) h1).mono fun u σ2 ⟨s2, h2, _, p, e, p0, p1⟩ => ?_
    subst e
    obtain ⟨q, rfl⟩ : ∃ q : Nat, p = (q : Int) := ⟨p.toNat, by omega⟩
    have hq : q < xs.length := by omega
    (decreasing_trivial; repeat ((first | (with_reducible (refine w_len (by simp; done) ?_)) | (with_reducible (refine w_pow (by decide) (by decide) (by decide) ?_)) | fail); decreasing_trivial))
    refine (ht n 9 (by decide) (by decide) σ2 _ (by omega) h2).mono fun u σ3 ⟨s3, h3, _, w, e, w0, w1⟩ => ?_
    subst e
    have xt := (s1.ext.step s2).step s3
    have sub : ∀ (ys zs : List AV), FitL (c - 3) (d - 1) ys → FitL (c - 3) (d - 1) zs → (∀ x ∈ ys, x ∈ xs) → (∀ x ∈ zs, x ∈ xs) → Fit (2 * c + 600) (d + 31) (.tup (ys ++ zs)) ∧ sS (.tup (ys ++ zs)) = true := fun ys zs h1 h2 h3 h4 => by
      refine ⟨(h1.append h2).tup.mono (by omega) (by omega), sS_sub hS fun x hx => ?_⟩
      rcases List.mem_append.mp hx with h | h
      · exact h3 x h
      · exact h4 x h
    (decreasing_trivial; repeat ((first | (with_reducible (refine w_len (by simp; done) ?_)) | (with_reducible (refine w_pow (by decide) (by decide) (by decide) ?_)) | fail); decreasing_trivial))
    refine gEq_i ?_
    (decreasing_trivial; repeat ((first | (with_reducible (refine w_len (by simp; done) ?_)) | (with_reducible (refine w_pow (by decide) (by decide) (by decide) ?_)) | fail); decreasing_trivial))
    refine ite_k (fun h4 => ?_) (fun h4 => ?_)
    · (decreasing_trivial; repeat ((first | (with_reducible (refine w_len (by simp; done) ?_)) | (with_reducible (refine w_pow (by decide) (by decide) (by decide) ?_)) | fail); decreasing_trivial))
      have l1 := cut_len (xs := xs) (l := none) (u := some (q : Int))
      have l2 := cut_len (xs := xs) (l := some ((q : Int) + 1)) (u := none)
      refine w_addT (by omega) ?_
      have c1 := sub _ _ (fitL_cut fl none (some (q : Int))) (fitL_cut fl (some ((q : Int) + 1)) none) (fun x hx => cut_mem hx) (fun x hx => cut_mem hx)
      exact ⟨c1.1.pure, xt, h3.le (by omega), c1⟩
    · (decreasing_trivial; repeat ((first | (with_reducible (refine w_len (by simp; done) ?_)) | (with_reducible (refine w_pow (by decide) (by decide) (by decide) ?_)) | fail); decreasing_trivial))
      refine gEq_i ?_
      (decreasing_trivial; repeat ((first | (with_reducible (refine w_len (by simp; done) ?_)) | (with_reducible (refine w_pow (by decide) (by decide) (by decide) ?_)) | fail); decreasing_trivial))
      refine ite_k (fun h5 => ?_) (fun h5 => ?_)
      · (decreasing_trivial; repeat ((first | (with_reducible (refine w_len (by simp; done) ?_)) | (with_reducible (refine w_pow (by decide) (by decide) (by decide) ?_)) | fail); decreasing_trivial))
        have l1 := cut_len (xs := xs) (l := none) (u := some ((q : Int) + 1))
        have l2 := cut_len (xs := xs) (l := some (q : Int)) (u := none)
        refine w_addT (by omega) ?_
        have c1 := sub _ _ (fitL_cut fl none (some ((q : Int) + 1))) (fitL_cut fl (some (q : Int)) none) (fun x hx => cut_mem hx) (fun x hx => cut_mem hx)
        exact ⟨c1.1.pure, xt, h3.le (by omega), c1⟩
      · (decreasing_trivial; repeat ((first | (with_reducible (refine w_len (by simp; done) ?_)) | (with_reducible (refine w_pow (by decide) (by decide) (by decide) ?_)) | fail); decreasing_trivial))
        refine w_ixT (v := xs[q]) (by rw [atI_nn p0 p1, Int.toNat_natCast, List.getElem?_eq_getElem hq]) ?_
        (decreasing_trivial; repeat ((first | (with_reducible (refine w_len (by simp; done) ?_)) | (with_reducible (refine w_pow (by decide) (by decide) (by decide) ?_)) | fail); decreasing_trivial))
        have ek : ((k : Nat) : Int) - 1 = ((k - 1 : Nat) : Int) := by omega
        rw [ek]
        have esp := cut_split (List.getElem?_eq_getElem hq)
        have fl2 := fl
        rw [esp] at fl2
        have f1 := fl2.left
        have f2 := fl2.right
        have ff := fl2.2.1
        rw [szL_app] at ff
        simp only [szL] at ff
        have fx : Fit (sz xs[q]) (d - 1) xs[q] := by
          obtain ⟨a1, a2, a3⟩ := f2
          simp only [shL, Bool.and_eq_true] at a1
          simp only [depL] at a3
          exact ⟨a1.1, Nat.le_refl _, by omega⟩
        have fr : FitL (szL (xs.drop (q + 1))) (d - 1) (xs.drop (q + 1)) := by
          obtain ⟨a1, a2, a3⟩ := f2
          simp only [shL, Bool.and_eq_true] at a1
          simp only [depL] at a3
          exact ⟨a1.2, Nat.le_refl _, by omega⟩
        have hb200 : 200 * (k - 1 + 1) + 200 ≤ 200 * (k + 1) := by omega
        refine (ih hk1 n xs[q] _ _ fx (sSL_iff.mp hS _ (List.getElem_mem hq)) (by omega) (by omega) σ3 _ (by omega) h3).mono fun u σ4 ⟨s4, h4', pu, fu, su⟩ => ?_
        (decreasing_trivial; repeat ((first | (with_reducible (refine w_len (by simp; done) ?_)) | (with_reducible (refine w_pow (by decide) (by decide) (by decide) ?_)) | fail); decreasing_trivial))
        rw [cut_lo (by omega)]
        refine w_addT (by rw [List.length_take]; simp; omega) ?_
        (decreasing_trivial; repeat ((first | (with_reducible (refine w_len (by simp; done) ?_)) | (with_reducible (refine w_pow (by decide) (by decide) (by decide) ?_)) | fail); decreasing_trivial))
        rw [show ((q : Nat) : Int) + 1 = ((q + 1 : Nat) : Int) by omega, cut_hi (by omega)]
        refine w_addT (by rw [List.length_append, List.length_take, List.length_drop]; simp; omega) ?_
        have f3 : Fit (2 * c + 600) (d + 31) (.tup (xs.take q ++ [u] ++ xs.drop (q + 1))) := ((f1.append (FitL.cons fu .nil)).append fr).tup.mono (by omega) (by omega)
        refine ⟨f3.pure, xt.step s4, h4'.le (by omega), f3, ?_⟩
        refine sSL_iff.mpr fun x hx => ?_
        rcases List.mem_append.mp hx with hx | hx
        · rcases List.mem_append.mp hx with hx | hx
          · exact sSL_iff.mp hS x (List.mem_of_mem_take hx)
          · rw [List.mem_singleton.mp hx]
            exact su
        · exact sSL_iff.mp hS x (List.mem_of_mem_drop hx)
end Lr

namespace Lr
open PySem PySem.Spec L2
def Tg (c d : Nat) (v : AV) : Prop := Fit c d v ∧ sS v = true
theorem Tg.mono {c d c' d' : Nat} {v : AV} (h : Tg c d v) (h1 : c ≤ c') (h2 : d ≤ d') : Tg c' d' v := ⟨h.1.mono h1 h2, h.2⟩
theorem tg_tup {c d n : Nat} {xs : List AV} (h : ∀ x ∈ xs, Tg c d x) (hl : xs.length ≤ n) : Tg (3 + n * (c + 2)) (d + 1) (.tup xs) :=
  ⟨(FitL.of_all (fun x hx => (h x hx).1) hl).tup, sSL_iff.mpr fun x hx => (h x hx).2⟩
theorem tg_lst {c d n : Nat} {xs : List AV} (h : ∀ x ∈ xs, Tg c d x) (hl : xs.length ≤ n) : Tg (3 + n * (c + 2)) (d + 1) (.lst xs) :=
  ⟨(FitL.of_all (fun x hx => (h x hx).1) hl).lst, sSL_iff.mpr fun x hx => (h x hx).2⟩
theorem rep_mem {x y : AV} {n : Nat} (h : y ∈ (List.replicate n [x]).flatten) : y = x := by
  obtain ⟨l, hl, hy⟩ := List.mem_flatten.mp h
  rw [(List.mem_replicate.mp hl).2] at hy
  exact List.mem_singleton.mp hy
theorem rep_len {x : AV} {n : Nat} : ((List.replicate n [x]).flatten).length = n := by
  induction n with
  | zero => rfl
  | succ n ih => rw [List.replicate_succ, List.flatten_cons, List.length_append, ih]; simp; omega
theorem tg_rep {c d : Nat} {x : AV} (h : Tg c d x) (n : Nat) : Tg (3 + n * (c + 2)) (d + 1) (.tup (List.replicate n [x]).flatten) :=
  tg_tup (fun y hy => by rw [rep_mem hy]; exact h) (by rw [rep_len]; exact Nat.le_refl _)
theorem tg_str {w : Str} (h : w ∈ SS) : Tg 13 0 (.str w) := by
  have : ∀ w ∈ SS, sz (.str w) ≤ 13 ∧ sS (.str w) = true := by decide +kernel
  exact ⟨⟨rfl, (this w h).1, Nat.le_refl _⟩, (this w h).2⟩
theorem tg_two {c d c' d' : Nat} {x y : AV} (h : Tg c d x) (g : Tg c' d' y) : Tg (c + c' + 7) (max d d' + 1) (.tup [x, y]) :=
  ⟨(FitL.cons h.1 (FitL.cons g.1 .nil)).tup.mono (by omega) (by omega), by simp [sS, sSL, h.2, g.2]⟩
theorem tg_nil : Tg 3 1 (.tup []) := ⟨⟨rfl, Nat.le_refl _, Nat.le_refl _⟩, rfl⟩
theorem mS {w : String} (h : SS.contains (Str.ofString w) = true) : Str.ofString w ∈ SS := List.contains_iff_mem.mp h
theorem mseq : ("seq" : Str) ∈ SS := mS (by decide +kernel)
theorem mbranch : ("branch" : Str) ∈ SS := mS (by decide +kernel)
theorem mloop : ("loop" : Str) ∈ SS := mS (by decide +kernel)
theorem mcopy : ("copy" : Str) ∈ SS := mS (by decide +kernel)
theorem ma : ("a" : Str) ∈ SS := mS (by decide +kernel)
abbrev Ed (v : AV) : Prop := Tg 4000 30 v
theorem w_slS {ρ : Loc} {μ : Store} {Q : AV → Store → Prop} {z : Str} {lo hi : AO'} (h : wp (lo ρ μ) fun l μ2 => wp (hi ρ μ2) fun u μ3 => z.length ≤ 16777216 ∧ Q (.str ⟨(cutA z.cps.toList l u).toArray⟩) μ3) : wp (eSl (eC (.str z)) lo hi ρ μ) Q := by
  unfold eSl
  rw [eC_s, Res.bind_ok, wp_bind]
  refine h.mono fun l μ2 h => ?_
  rw [wp_bind]
  refine h.mono fun u μ3 h => ?_
  simp only [if_pos h.1]
  exact h.2
def EInv (n l : Nat) (μ : Store) (C N : Nat) (τ : Store) : Prop := Ext n μ τ ∧ Hst τ n C ∧ ∃ xs, τ[l]? = some (.lst xs) ∧ xs.length ≤ N ∧ ∀ x ∈ xs, Ed x
theorem EInv.add {n l C N k : Nat} {μ τ : Store} {xs ys : List AV} (hln : l ≠ n) (hl : μ.length ≤ l) (x : Ext n μ τ) (h : Hst τ n C) (e : τ[l]? = some (.lst xs)) (hl2 : xs.length ≤ N) (hx : ∀ x ∈ xs, Ed x) (hy : ∀ y ∈ ys, Ed y) (hk : ys.length ≤ k) : EInv n l μ C (N + k) (τ.set l (.lst (xs ++ ys))) := by
  refine ⟨x.set _ (.inl hl), h.set _ hln, xs ++ ys, by rw [List.getElem?_set_self (List.getElem?_eq_some_iff.mp e).1], by rw [List.length_append]; omega, fun z hz => ?_⟩
  rcases List.mem_append.mp hz with h | h
  · exact hx z h
  · exact hy z h
theorem EInv.le {n l C N C' N' : Nat} {μ τ : Store} (h : EInv n l μ C N τ) (h1 : C ≤ C') (h2 : N ≤ N') : EInv n l μ C' N' τ := by
  obtain ⟨a, b, xs, c, d, e⟩ := h
  exact ⟨a, b.le h1, xs, c, by omega, e⟩
def EdgesOk (f : Fn) : Prop := ∀ n : Nat, Draws f n [.loc n] 100 (fun v => ∃ xs, v = .lst xs ∧ xs.length ≤ 40 ∧ ∀ x ∈ xs, Ed x)
theorem edges_ok (T : Nat → Fn) (ho : OfOk (T i3_law_of)) : EdgesOk (fnR 10 1 (m16_law_edges T)) := fun n => by
  refine Draws.of rfl fun μ B hb hs => ?_
  have hlt := hs.lt
  simp only [startA_s, List.map_cons, List.map_nil, List.length_cons, List.length_nil, Nat.reduceAdd, Nat.reduceSub, List.replicate_succ, List.replicate_zero, List.cons_append, List.nil_append]
  unfold m16_law_edges
  refine o_seq2 (fun ρ1 τ => ∃ (l : Nat) (leaf : AV), μ.length ≤ l ∧ Tg 30 1 leaf ∧ EInv n l μ (B + 1) 0 τ ∧ ρ1 = [some (.loc n), some leaf, some (.loc l), none, none, none, none, none, none, none]) ?_ ?_
  · (decreasing_trivial; repeat ((first | (with_reducible (refine w_len (by simp; done) ?_)) | (with_reducible (refine w_pow (by decide) (by decide) (by decide) ?_)) | fail); decreasing_trivial))
    refine (ho n _ (by simp) (by simp) (by decide) μ B (by omega) hs).mono fun v σ ⟨s1, h1, pv, hv⟩ => ?_
    have f1 : Tg 30 1 v := by
      simp only [List.mem_cons, List.not_mem_nil, or_false] at hv
      rcases hv with h | h | h | h <;> subst h <;> exact ⟨⟨by decide +kernel, by decide +kernel, by decide +kernel⟩, by decide +kernel⟩
    (decreasing_trivial; repeat ((first | (with_reducible (refine w_len (by simp; done) ?_)) | (with_reducible (refine w_pow (by decide) (by decide) (by decide) ?_)) | fail); decreasing_trivial))
    exact ⟨σ.length, v, by rw [s1.1]; exact Nat.le_refl _, f1, ⟨s1.ext.push _, h1.push _, [], push_get, by simp, by simp⟩, rfl⟩
  · rintro ρ1 τ0 ⟨l, leaf, hl, fl, I0, rfl⟩
    have hln : l ≠ n := by omega
    have pl := fl.1.pure
    -- parts
    refine o_seq2 (fun ρ1 τ => EInv n l μ (B + 1) 18 τ ∧ ∃ x3, ρ1 = [some (.loc n), some leaf, some (.loc l), x3, none, none, none, none, none, none]) ?_ ?_
    · (decreasing_trivial; repeat ((first | (with_reducible (refine w_len (by simp; done) ?_)) | (with_reducible (refine w_pow (by decide) (by decide) (by decide) ?_)) | fail); decreasing_trivial))
      refine w_anyT ?_
      (decreasing_trivial; repeat ((first | (with_reducible (refine w_len (by simp; done) ?_)) | (with_reducible (refine w_pow (by decide) (by decide) (by decide) ?_)) | fail); decreasing_trivial))
      refine wo_dat (fun i ρ τ => EInv n l μ (B + 1) (3 * i) τ ∧ ∃ x3, ρ = [some (.loc n), some leaf, some (.loc l), x3, none, none, none, none, none, none]) ?_ ?_ FUEL 0 _ _ (by simp; unfold FUEL; omega) (by omega) ⟨I0, _, rfl⟩
      · rintro ρ τ ⟨I, x3, rfl⟩
        exact ⟨I.le (by omega) (by simp), x3, rfl⟩
      · rintro i v ρ τ hv ⟨⟨xt, h1, xs, e, hlx, hx⟩, x3, rfl⟩
        have hil : i < 6 := (List.getElem?_eq_some_iff.mp hv).1
        obtain ⟨m, em, m0, m1⟩ : ∃ m : Int, v = .int m ∧ 0 ≤ m ∧ m ≤ 21 := by
          have := List.mem_of_getElem? hv
          simp only [List.mem_cons, List.not_mem_nil, or_false] at this
          rcases this with h | h | h | h | h | h <;> exact ⟨_, h, by decide, by decide⟩
        subst em
        refine ⟨_, rfl, ?_⟩
        (decreasing_trivial; repeat ((first | (with_reducible (refine w_len (by simp; done) ?_)) | (with_reducible (refine w_pow (by decide) (by decide) (by decide) ?_)) | fail); decreasing_trivial))
        refine ⟨by simp [isLs, lsOf, e], ?_⟩
        (decreasing_trivial; repeat ((first | (with_reducible (refine w_len (by simp; done) ?_)) | (with_reducible (refine w_pow (by decide) (by decide) (by decide) ?_)) | fail); decreasing_trivial))
        refine w_mulT (by simp) (by omega) (by omega) (by simp) ?_
        (decreasing_trivial; repeat ((first | (with_reducible (refine w_len (by simp; done) ?_)) | (with_reducible (refine w_pow (by decide) (by decide) (by decide) ?_)) | fail); decreasing_trivial))
        refine w_mulT (by simp) (by omega) (by omega) (by simp) ?_
        (decreasing_trivial; repeat ((first | (with_reducible (refine w_len (by simp; done) ?_)) | (with_reducible (refine w_pow (by decide) (by decide) (by decide) ?_)) | fail); decreasing_trivial))
        refine w_mulT (by simp) (by omega) (by omega) (by simp) ?_
        (decreasing_trivial; repeat ((first | (with_reducible (refine w_len (by simp; done) ?_)) | (with_reducible (refine w_pow (by decide) (by decide) (by decide) ?_)) | fail); decreasing_trivial))
        refine ⟨l, xs, _, rfl, e, rfl, by simp; omega, ?_⟩
        have hm : m.toNat ≤ 21 := by omega
        have r1 : Tg 675 2 (.tup (List.replicate m.toNat [leaf]).flatten) := (tg_rep fl m.toNat).mono (by have := Nat.mul_le_mul_right 32 hm; omega) (by omega)
        have e1 : Tg 23 2 (.tup [.str "seq", .tup []]) := (tg_two (tg_str mseq) tg_nil).mono (by omega) (by omega)
        have r2 : Tg 675 3 (.tup (List.replicate m.toNat [AV.tup [.str "seq", .tup []]]).flatten) := (tg_rep e1 m.toNat).mono (by have := Nat.mul_le_mul_right 25 hm; omega) (by omega)
        refine ⟨(EInv.add (k := 3) hln hl xt h1 e hlx hx (fun y hy => ?_) (by simp)).le (by omega) (by omega), _, rfl⟩
        simp only [List.mem_cons, List.not_mem_nil, or_false] at hy
        rcases hy with h | h | h <;> subst h
        · exact (tg_two (tg_str mseq) r1).mono (by omega) (by omega)
        · exact (tg_two (tg_str mbranch) r1).mono (by omega) (by omega)
        · exact (tg_two (tg_str mseq) r2).mono (by omega) (by omega)
    · clear I0
      rintro ρ2 τ1 ⟨I1, x3, rfl⟩
      -- instructions
      refine o_seq2 (fun ρ1 τ => EInv n l μ (B + 1) 21 τ ∧ ∃ x3 x4, ρ1 = [some (.loc n), some leaf, some (.loc l), x3, x4, none, none, none, none, none]) ?_ ?_
      · (decreasing_trivial; repeat ((first | (with_reducible (refine w_len (by simp; done) ?_)) | (with_reducible (refine w_pow (by decide) (by decide) (by decide) ?_)) | fail); decreasing_trivial))
        refine w_anyT ?_
        (decreasing_trivial; repeat ((first | (with_reducible (refine w_len (by simp; done) ?_)) | (with_reducible (refine w_pow (by decide) (by decide) (by decide) ?_)) | fail); decreasing_trivial))
        refine wo_dat (fun i ρ τ => EInv n l μ (B + 1) (18 + i) τ ∧ ∃ x3 x4, ρ = [some (.loc n), some leaf, some (.loc l), x3, x4, none, none, none, none, none]) ?_ ?_ FUEL 0 _ _ (by simp; unfold FUEL; omega) (by omega) ⟨I1, _, _, rfl⟩
        · rintro ρ τ ⟨I, x3, x4, rfl⟩
          exact ⟨I.le (by omega) (by simp), x3, x4, rfl⟩
        · rintro i v ρ τ hv ⟨⟨xt, h1, xs, e, hlx, hx⟩, x3, x4, rfl⟩
          have hil : i < 3 := (List.getElem?_eq_some_iff.mp hv).1
          obtain ⟨m, em, m0, m1⟩ : ∃ m : Int, v = .int m ∧ 39 ≤ m ∧ m ≤ 41 := by
            have := List.mem_of_getElem? hv
            simp only [List.mem_cons, List.not_mem_nil, or_false] at this
            rcases this with h | h | h <;> exact ⟨_, h, by decide, by decide⟩
          subst em
          refine ⟨_, rfl, ?_⟩
          (decreasing_trivial; repeat ((first | (with_reducible (refine w_len (by simp; done) ?_)) | (with_reducible (refine w_pow (by decide) (by decide) (by decide) ?_)) | fail); decreasing_trivial))
          refine gEq_i ?_
          (decreasing_trivial; repeat ((first | (with_reducible (refine w_len (by simp; done) ?_)) | (with_reducible (refine w_pow (by decide) (by decide) (by decide) ?_)) | fail); decreasing_trivial))
          have hq : ∀ q : Bool, 0 ≤ (if q = true then (1 : Int) else 0) ∧ (if q = true then (1 : Int) else 0) ≤ 1 := fun q => by cases q <;> simp
          have hb2 := hq (m == 41)
          generalize (if (m == 41) = true then (1 : Int) else 0) = w at *
          refine w_mulT (by simp) (by omega) (by omega) (by simp) ?_
          (decreasing_trivial; repeat ((first | (with_reducible (refine w_len (by simp; done) ?_)) | (with_reducible (refine w_pow (by decide) (by decide) (by decide) ?_)) | fail); decreasing_trivial))
          refine ⟨by simp [isLs, lsOf, e], ?_⟩
          (decreasing_trivial; repeat ((first | (with_reducible (refine w_len (by simp; done) ?_)) | (with_reducible (refine w_pow (by decide) (by decide) (by decide) ?_)) | fail); decreasing_trivial))
          refine w_mulT (by simp) (by omega) (by omega) (by simp) ?_
          (decreasing_trivial; repeat ((first | (with_reducible (refine w_len (by simp; done) ?_)) | (with_reducible (refine w_pow (by decide) (by decide) (by decide) ?_)) | fail); decreasing_trivial))
          have hmn : 0 ≤ (if m - 20 < 20 then m - 20 else 20) ∧ (if m - 20 < 20 then m - 20 else 20) ≤ 20 := by split <;> omega
          generalize (if m - 20 < 20 then m - 20 else 20) = u at *
          refine w_mulT (by simp) (by omega) (by omega) (by simp) ?_
          (decreasing_trivial; repeat ((first | (with_reducible (refine w_len (by simp; done) ?_)) | (with_reducible (refine w_pow (by decide) (by decide) (by decide) ?_)) | fail); decreasing_trivial))
          refine w_addT (by rw [rep_len]; simp; omega) ?_
          (decreasing_trivial; repeat ((first | (with_reducible (refine w_len (by simp; done) ?_)) | (with_reducible (refine w_pow (by decide) (by decide) (by decide) ?_)) | fail); decreasing_trivial))
          refine ⟨l, xs, rfl, e, by omega, ?_⟩
          have r1 : ∀ z : Nat, z ≤ 20 → Tg 643 2 (.tup (List.replicate z [leaf]).flatten) := fun z hz => (tg_rep fl z).mono (by have := Nat.mul_le_mul_right 32 hz; omega) (by omega)
          have r2 : ∀ z : Nat, z ≤ 20 → Tg 663 3 (.tup [.str "seq", .tup (List.replicate z [leaf]).flatten]) := fun z hz => (tg_two (tg_str mseq) (r1 z hz)).mono (by omega) (by omega)
          refine ⟨(EInv.add (k := 1) (ys := [_]) hln hl xt h1 e hlx hx (fun y hy => ?_) (by simp)).le (by omega) (by omega), _, _, rfl⟩
          rw [List.mem_singleton.mp hy]
          refine (tg_two (tg_str mseq) (tg_tup (c := 663) (d := 3) (n := 3) (fun x hx => ?_) (by rw [List.length_append, rep_len]; simp; omega))).mono (by omega) (by omega)
          rcases List.mem_append.mp hx with hx | hx
          · simp only [List.mem_cons, List.not_mem_nil, or_false] at hx
            rcases hx with h | h <;> subst h
            · exact r2 _ (by decide)
            · exact r2 _ (by omega)
          · rw [rep_mem hx]
            exact fl.mono (by omega) (by omega)
      · clear I1
        rintro ρ3 τ2 ⟨I2, x3, x4, rfl⟩
        -- nodes
        refine o_seq2 (fun ρ1 τ => EInv n l μ (B + 1) 24 τ ∧ ∃ x3 x5, ρ1 = [some (.loc n), some leaf, some (.loc l), x3, x4, x5, none, none, none, none]) ?_ ?_
        · (decreasing_trivial; repeat ((first | (with_reducible (refine w_len (by simp; done) ?_)) | (with_reducible (refine w_pow (by decide) (by decide) (by decide) ?_)) | fail); decreasing_trivial))
          refine w_anyT ?_
          (decreasing_trivial; repeat ((first | (with_reducible (refine w_len (by simp; done) ?_)) | (with_reducible (refine w_pow (by decide) (by decide) (by decide) ?_)) | fail); decreasing_trivial))
          refine wo_dat (fun i ρ τ => EInv n l μ (B + 1) (21 + i) τ ∧ ∃ x3 x5, ρ = [some (.loc n), some leaf, some (.loc l), x3, x4, x5, none, none, none, none]) ?_ ?_ FUEL 0 _ _ (by simp; unfold FUEL; omega) (by omega) ⟨I2, _, _, rfl⟩
          · rintro ρ τ ⟨I, x3, x5, rfl⟩
            exact ⟨I.le (by omega) (by simp), x3, x5, rfl⟩
          · rintro i v ρ τ hv ⟨⟨xt, h1, xs, e, hlx, hx⟩, x3, x5, rfl⟩
            have hil : i < 3 := (List.getElem?_eq_some_iff.mp hv).1
            obtain ⟨m, em, m0, m1⟩ : ∃ m : Int, v = .int m ∧ 18 ≤ m ∧ m ≤ 20 := by
              have := List.mem_of_getElem? hv
              simp only [List.mem_cons, List.not_mem_nil, or_false] at this
              rcases this with h | h | h <;> exact ⟨_, h, by decide, by decide⟩
            subst em
            refine ⟨_, rfl, ?_⟩
            (decreasing_trivial; repeat ((first | (with_reducible (refine w_len (by simp; done) ?_)) | (with_reducible (refine w_pow (by decide) (by decide) (by decide) ?_)) | fail); decreasing_trivial))
            refine ⟨by simp [isLs, lsOf, e], ?_⟩
            (decreasing_trivial; repeat ((first | (with_reducible (refine w_len (by simp; done) ?_)) | (with_reducible (refine w_pow (by decide) (by decide) (by decide) ?_)) | fail); decreasing_trivial))
            refine w_mulT (by simp) (by omega) (by omega) (by simp) ?_
            (decreasing_trivial; repeat ((first | (with_reducible (refine w_len (by simp; done) ?_)) | (with_reducible (refine w_pow (by decide) (by decide) (by decide) ?_)) | fail); decreasing_trivial))
            refine w_mulT (by simp) (by omega) (by omega) (by simp) ?_
            (decreasing_trivial; repeat ((first | (with_reducible (refine w_len (by simp; done) ?_)) | (with_reducible (refine w_pow (by decide) (by decide) (by decide) ?_)) | fail); decreasing_trivial))
            refine w_mulT (by simp) (by omega) (by omega) (by simp) ?_
            (decreasing_trivial; repeat ((first | (with_reducible (refine w_len (by simp; done) ?_)) | (with_reducible (refine w_pow (by decide) (by decide) (by decide) ?_)) | fail); decreasing_trivial))
            refine ⟨l, xs, rfl, e, by omega, ?_⟩
            have e1 : Tg 23 2 (.tup [.str "seq", .tup []]) := (tg_two (tg_str mseq) tg_nil).mono (by omega) (by omega)
            have r1 : ∀ z : Nat, z ≤ 20 → Tg 523 4 (.tup [.str "seq", .tup (List.replicate z [AV.tup [.str "seq", .tup []]]).flatten]) := fun z hz => (tg_two (tg_str mseq) (tg_rep e1 z)).mono (by have := Nat.mul_le_mul_right 25 hz; omega) (by omega)
            refine ⟨(EInv.add (k := 1) (ys := [_]) hln hl xt h1 e hlx hx (fun y hy => ?_) (by simp)).le (by omega) (by omega), _, _, rfl⟩
            rw [List.mem_singleton.mp hy]
            refine (tg_two (tg_str mseq) (tg_tup (c := 523) (d := 4) (n := 3) (fun x hx => ?_) (by simp))).mono (by omega) (by omega)
            simp only [List.mem_cons, List.not_mem_nil, or_false] at hx
            rcases hx with h | h | h <;> subst h
            · exact r1 _ (by decide)
            · exact r1 _ (by decide)
            · exact r1 _ (by omega)
        · clear I2
          rintro ρ4 τ3 ⟨I3, x3, x5, rfl⟩
          -- depth
          refine o_seq2 (fun ρ1 τ => EInv n l μ (B + 40) 27 τ ∧ ∃ x6 x7 x8, ρ1 = [some (.loc n), some leaf, some (.loc l), x3, x4, x5, x6, x7, x8, none]) ?_ ?_
          · (decreasing_trivial; repeat ((first | (with_reducible (refine w_len (by simp; done) ?_)) | (with_reducible (refine w_pow (by decide) (by decide) (by decide) ?_)) | fail); decreasing_trivial))
            refine w_anyT ?_
            (decreasing_trivial; repeat ((first | (with_reducible (refine w_len (by simp; done) ?_)) | (with_reducible (refine w_pow (by decide) (by decide) (by decide) ?_)) | fail); decreasing_trivial))
            refine wo_dat (fun i ρ τ => EInv n l μ (B + 1 + 10 * i) (24 + i) τ ∧ ∃ x6 x7 x8, ρ = [some (.loc n), some leaf, some (.loc l), x3, x4, x5, x6, x7, x8, none]) ?_ ?_ FUEL 0 _ _ (by simp; unfold FUEL; omega) (by omega) ⟨I3, _, _, _, rfl⟩
            · rintro ρ τ ⟨I, x6, x7, x8, rfl⟩
              exact ⟨I.le (by simp) (by simp), x6, x7, x8, rfl⟩
            · rintro i v ρ τ hv ⟨I, x6, x7, x8, rfl⟩
              have hil : i < 3 := (List.getElem?_eq_some_iff.mp hv).1
              obtain ⟨m, em, m0, m1⟩ : ∃ m : Int, v = .int m ∧ 7 ≤ m ∧ m ≤ 9 := by
                have := List.mem_of_getElem? hv
                simp only [List.mem_cons, List.not_mem_nil, or_false] at this
                rcases this with h | h | h <;> exact ⟨_, h, by decide, by decide⟩
              subst em
              refine ⟨_, rfl, ?_⟩
              refine o_seq2 (fun ρ1 τ4 => τ4 = τ ∧ ρ1 = [some (.loc n), some leaf, some (.loc l), x3, x4, x5, some (.int m), some leaf, x8, none]) ?_ ?_
              · (decreasing_trivial; repeat ((first | (with_reducible (refine w_len (by simp; done) ?_)) | (with_reducible (refine w_pow (by decide) (by decide) (by decide) ?_)) | fail); decreasing_trivial))
                exact ⟨rfl, rfl⟩
              · rintro ρ5 τ4 ⟨rfl, rfl⟩
                refine o_seq2 (fun ρ1 τ5 => EInv n l μ (B + 1 + 10 * i + 8) (24 + i) τ5 ∧ ∃ deep x8, Tg 1000 20 deep ∧ ρ1 = [some (.loc n), some leaf, some (.loc l), x3, x4, x5, some (.int m), some deep, x8, none]) ?_ ?_
                · (decreasing_trivial; repeat ((first | (with_reducible (refine w_len (by simp; done) ?_)) | (with_reducible (refine w_pow (by decide) (by decide) (by decide) ?_)) | fail); decreasing_trivial))
                  refine ⟨by omega, by omega, ?_⟩
                  have hrl : (rangeL 0 (m - 1).toNat).length = (m - 1).toNat := by simp [rangeL]
                  refine wo_dat (fun j ρ τ5 => EInv n l μ (B + 1 + 10 * i + j) (24 + i) τ5 ∧ ∃ deep x8, Tg (30 + 100 * j) (1 + 2 * j) deep ∧ ρ = [some (.loc n), some leaf, some (.loc l), x3, x4, x5, some (.int m), some deep, x8, none]) ?_ ?_ FUEL 0 _ _ (by rw [hrl]; unfold FUEL; omega) (by omega) ⟨I, leaf, x8, fl, rfl⟩
                  · rintro ρ τ5 ⟨I5, deep, y8, fd, rfl⟩
                    rw [hrl] at I5 fd
                    exact ⟨I5.le (by omega) (by omega), deep, y8, fd.mono (by omega) (by omega), rfl⟩
                  · rintro j v ρ τ5 hv2 ⟨⟨xt, h1, xs, e, hlx, hx⟩, deep, y8, fd, rfl⟩
                    obtain ⟨rfl, hj⟩ := rng_mem hv2
                    have hj8 : j < 8 := by omega
                    refine ⟨_, rfl, ?_⟩
                    (decreasing_trivial; repeat ((first | (with_reducible (refine w_len (by simp; done) ?_)) | (with_reducible (refine w_pow (by decide) (by decide) (by decide) ?_)) | fail); decreasing_trivial))
                    have one : ∀ w : Str, w ∈ SS → ∀ ys : List AV, (∀ y ∈ ys, y = deep ∨ y = leaf) → szL ys ≤ 30 + 100 * j + 2 + 32 → Tg (30 + 100 * (j + 1)) (1 + 2 * (j + 1)) (.tup [.str w, .tup ys]) := fun w hw ys hy hz => by
                      have g : Tg (30 + 100 * j + 40) (2 + 2 * j) (.tup ys) := by
                        refine ⟨⟨?_, ?_, ?_⟩, ?_⟩
                        · refine shL_iff.mpr fun y hm => ?_
                          rcases hy y hm with h | h <;> rw [h]
                          · exact fd.1.1
                          · exact fl.1.1
                        · simp only [sz]
                          omega
                        · simp only [dep]
                          have : depL ys ≤ 1 + 2 * j := by
                            clear hz
                            induction ys with
                            | nil => simp [depL]
                            | cons y ys ih =>
                              simp only [depL]
                              have h1 := ih fun z hz => hy z (List.mem_cons_of_mem _ hz)
                              have h2 : dep y ≤ 1 + 2 * j := by
                                rcases hy y List.mem_cons_self with h | h <;> rw [h]
                                · exact fd.1.2.2
                                · have := fl.1.2.2
                                  omega
                              omega
                          omega
                        · refine sSL_iff.mpr fun y hm => ?_
                          rcases hy y hm with h | h <;> rw [h]
                          · exact fd.2
                          · exact fl.2
                      exact (tg_two (tg_str hw) g).mono (by omega) (by omega)
                    have sd := fd.1.2.1
                    have sl := fl.1.2.1
                    have pd := fd.1.pure
                    refine (ho n _ (by simp) (by simp) (by simp [pureL, pure?, pl, pd]) τ5 _ (by omega) h1).mono fun u τ6 ⟨s6, h6, pu, hu⟩ => ?_
                    refine ⟨⟨xt.step s6, h6, xs, (s6.2 l hln).trans e, hlx, hx⟩, u, _, ?_, rfl⟩
                    simp only [List.mem_cons, List.not_mem_nil, or_false] at hu
                    rcases hu with h | h | h | h <;> subst h
                    · exact (tg_two (tg_str mloop) fd).mono (by omega) (by omega)
                    · exact one _ mseq [deep] (by simp) (by simp only [szL]; omega)
                    · exact one _ mbranch [deep, leaf] (by simp) (by simp only [szL]; omega)
                    · exact one _ mseq [leaf, deep] (by simp) (by simp only [szL]; omega)
                · rintro ρ6 τ5 ⟨⟨xt, h1, xs, e, hlx, hx⟩, deep, y8, fd, rfl⟩
                  (decreasing_trivial; repeat ((first | (with_reducible (refine w_len (by simp; done) ?_)) | (with_reducible (refine w_pow (by decide) (by decide) (by decide) ?_)) | fail); decreasing_trivial))
                  refine ⟨by simp [isLs, lsOf, e], ?_⟩
                  (decreasing_trivial; repeat ((first | (with_reducible (refine w_len (by simp; done) ?_)) | (with_reducible (refine w_pow (by decide) (by decide) (by decide) ?_)) | fail); decreasing_trivial))
                  refine ⟨l, xs, rfl, e, by omega, ?_⟩
                  refine ⟨(EInv.add (k := 1) (ys := [deep]) hln hl xt h1 e hlx hx (fun y hy => ?_) (by simp)).le (by omega) (by omega), _, _, _, rfl⟩
                  rw [List.mem_singleton.mp hy]
                  exact fd.mono (by omega) (by omega)
          · clear I3
            rintro ρ5 τ4 ⟨I4, x6, x7, x8, rfl⟩
            -- names
            refine o_seq2 (fun ρ1 τ => EInv n l μ (B + 40) 30 τ ∧ ∃ x3, ρ1 = [some (.loc n), some leaf, some (.loc l), x3, x4, x5, x6, x7, x8, none]) ?_ ?_
            · (decreasing_trivial; repeat ((first | (with_reducible (refine w_len (by simp; done) ?_)) | (with_reducible (refine w_pow (by decide) (by decide) (by decide) ?_)) | fail); decreasing_trivial))
              refine w_anyT ?_
              (decreasing_trivial; repeat ((first | (with_reducible (refine w_len (by simp; done) ?_)) | (with_reducible (refine w_pow (by decide) (by decide) (by decide) ?_)) | fail); decreasing_trivial))
              refine wo_dat (fun i ρ τ => EInv n l μ (B + 40) (27 + i) τ ∧ ∃ x3, ρ = [some (.loc n), some leaf, some (.loc l), x3, x4, x5, x6, x7, x8, none]) ?_ ?_ FUEL 0 _ _ (by simp; unfold FUEL; omega) (by omega) ⟨I4, _, rfl⟩
              · rintro ρ τ ⟨I, x3, rfl⟩
                exact ⟨I.le (by omega) (by simp), x3, rfl⟩
              · rintro i v ρ τ hv ⟨⟨xt, h1, xs, e, hlx, hx⟩, x3, rfl⟩
                have hil : i < 3 := (List.getElem?_eq_some_iff.mp hv).1
                obtain ⟨m, em, m0, m1⟩ : ∃ m : Int, v = .int m ∧ 7 ≤ m ∧ m ≤ 9 := by
                  have := List.mem_of_getElem? hv
                  simp only [List.mem_cons, List.not_mem_nil, or_false] at this
                  rcases this with h | h | h <;> exact ⟨_, h, by decide, by decide⟩
                subst em
                refine ⟨_, rfl, ?_⟩
                (decreasing_trivial; repeat ((first | (with_reducible (refine w_len (by simp; done) ?_)) | (with_reducible (refine w_pow (by decide) (by decide) (by decide) ?_)) | fail); decreasing_trivial))
                refine ⟨by simp [isLs, lsOf, e], ?_⟩
                (decreasing_trivial; repeat ((first | (with_reducible (refine w_len (by simp; done) ?_)) | (with_reducible (refine w_pow (by decide) (by decide) (by decide) ?_)) | fail); decreasing_trivial))
                refine w_strI ?_
                refine w_slS (z := "abcdefghi") ?_
                (decreasing_trivial; repeat ((first | (with_reducible (refine w_len (by simp; done) ?_)) | (with_reducible (refine w_pow (by decide) (by decide) (by decide) ?_)) | fail); decreasing_trivial))
                refine ⟨by decide +kernel, _, rfl, ?_⟩
                have hsg : ∀ y ∈ signsA ⟨(cutA ("abcdefghi" : Str).cps.toList none (some m)).toArray⟩, ∃ w, y = .str w ∧ w ∈ SS := by
                  have hm : m = 7 ∨ m = 8 ∨ m = 9 := by omega
                  have k7 : ∀ y ∈ ("abcdefghi" : Str).cps.toList, (⟨#[y]⟩ : Str) ∈ SS := by decide +kernel
                  intro y hy
                  obtain ⟨c, hc, rfl⟩ := List.mem_map.mp hy
                  exact ⟨_, rfl, k7 c (List.mem_of_mem_drop (List.mem_of_mem_take hc))⟩
                have hsl : (signsA ⟨(cutA ("abcdefghi" : Str).cps.toList none (some m)).toArray⟩).length ≤ 9 := by
                  show ((cutA ("abcdefghi" : Str).cps.toList none (some m)).map _).length ≤ 9
                  rw [List.length_map]
                  unfold cutA
                  rw [List.length_take, List.length_drop]
                  have : ("abcdefghi" : Str).cps.toList.length = 9 := by decide +kernel
                  omega
                generalize signsA ⟨(cutA ("abcdefghi" : Str).cps.toList none (some m)).toArray⟩ = sg at *
                refine lcP (p := fun _ => true) (f := fun y => .tup [.str "copy", y, .str "a"]) (fun i => rfl) (by omega) (fun y hy => ⟨_, rfl, rfl, rfl, fun _ => ?_⟩) ?_
                · (decreasing_trivial; repeat ((first | (with_reducible (refine w_len (by simp; done) ?_)) | (with_reducible (refine w_pow (by decide) (by decide) (by decide) ?_)) | fail); decreasing_trivial))
                  exact ⟨rfl, rfl⟩
                · rw [List.filter_eq_self.mpr fun _ _ => rfl]
                  (decreasing_trivial; repeat ((first | (with_reducible (refine w_len (by simp; done) ?_)) | (with_reducible (refine w_pow (by decide) (by decide) (by decide) ?_)) | fail); decreasing_trivial))
                  refine ⟨l, xs, rfl, e, by omega, ?_⟩
                  refine ⟨(EInv.add (k := 1) (ys := [_]) hln hl xt h1 e hlx hx (fun y hy => ?_) (by simp)).le (by omega) (by omega), _, rfl⟩
                  rw [List.mem_singleton.mp hy]
                  refine (tg_two (tg_str mseq) (tg_tup (c := 48) (d := 1) (n := 9) (fun x hx => ?_) (by rw [List.length_map]; exact hsl))).mono (by omega) (by omega)
                  obtain ⟨y, hy, rfl⟩ := List.mem_map.mp hx
                  obtain ⟨w, rfl, hw⟩ := hsg y hy
                  refine (tg_tup (c := 13) (d := 0) (n := 3) (fun x hx => ?_) (by simp)).mono (by omega) (by omega)
                  simp only [List.mem_cons, List.not_mem_nil, or_false] at hx
                  rcases hx with h | h | h <;> subst h
                  · exact tg_str mcopy
                  · exact tg_str hw
                  · exact tg_str ma
            · clear I4
              rintro ρ6 τ5 ⟨⟨xt, h1, xs, e, hlx, hx⟩, x3', rfl⟩
              (decreasing_trivial; repeat ((first | (with_reducible (refine w_len (by simp; done) ?_)) | (with_reducible (refine w_pow (by decide) (by decide) (by decide) ?_)) | fail); decreasing_trivial))
              refine ⟨xs, _, by simp only [lsOf, e], rfl, by simp; omega, ?_⟩
              (decreasing_trivial; repeat ((first | (with_reducible (refine w_len (by simp; done) ?_)) | (with_reducible (refine w_pow (by decide) (by decide) (by decide) ?_)) | fail); decreasing_trivial))
              refine ⟨xs ++ [AV.tup [.str "loop", .tup [.str "seq", .tup []]], .tup [.str "loop", leaf, leaf], .tup [.str "loop"], .tup [.str "loop", .tup []]], _, by simp only [lsOf, push_get], rfl, by simp; omega, ?_⟩
              have e1 : Tg 23 2 (.tup [.str "seq", .tup []]) := (tg_two (tg_str mseq) tg_nil).mono (by omega) (by omega)
              have all : ∀ x ∈ (xs ++ [AV.tup [.str "loop", .tup [.str "seq", .tup []]], .tup [.str "loop", leaf, leaf], .tup [.str "loop"], .tup [.str "loop", .tup []]]) ++ [AV.tup [.str "seq", .lst [leaf]], .tup [.str "seq", leaf], .tup [.str "branch", .lst [leaf]]], Ed x := by
                have tl : Tg 35 2 (.lst [leaf]) := (tg_lst (c := 30) (d := 1) (n := 1) (fun x hx => by rw [List.mem_singleton.mp hx]; exact fl) (by simp)).mono (by omega) (by omega)
                intro x hm
                rcases List.mem_append.mp hm with hm | hm
                · rcases List.mem_append.mp hm with hm | hm
                  · exact hx x hm
                  · simp only [List.mem_cons, List.not_mem_nil, or_false] at hm
                    rcases hm with h | h | h | h <;> subst h
                    · exact (tg_two (tg_str mloop) e1).mono (by omega) (by omega)
                    · refine (tg_tup (c := 30) (d := 1) (n := 3) (fun x hx => ?_) (by simp)).mono (by omega) (by omega)
                      simp only [List.mem_cons, List.not_mem_nil, or_false] at hx
                      rcases hx with h | h | h <;> subst h
                      · exact (tg_str mloop).mono (by omega) (by omega)
                      · exact fl
                      · exact fl
                    · exact (tg_tup (c := 13) (d := 0) (n := 1) (fun x hx => by rw [List.mem_singleton.mp hx]; exact tg_str mloop) (by simp)).mono (by omega) (by omega)
                    · exact (tg_two (tg_str mloop) tg_nil).mono (by omega) (by omega)
                · simp only [List.mem_cons, List.not_mem_nil, or_false] at hm
                  rcases hm with h | h | h <;> subst h
                  · exact (tg_two (tg_str mseq) tl).mono (by omega) (by omega)
                  · exact (tg_two (tg_str mseq) fl).mono (by omega) (by omega)
                  · exact (tg_two (tg_str mbranch) tl).mono (by omega) (by omega)
              refine ⟨?_, xt.push _, (h1.push _).le (by omega), _, rfl, by simp; omega, all⟩
              simp only [pure?]
              rw [pureL_all, List.all_eq_true]
              exact fun x hm => (all x hm).1.pure
end Lr

namespace Lr
open PySem PySem.Spec L2
theorem nm_ss : ∀ x ∈ NM, SS.contains x = true := by
  have h : (NM.all fun x => SS.contains x) = true := by decide +kernel
  exact fun x hx => List.all_eq_true.mp h x hx
theorem kw_ss : SS.contains (Str.ofString "new") = true ∧ SS.contains (Str.ofString "use") = true ∧ SS.contains (Str.ofString "drop") = true ∧ SS.contains (Str.ofString "copy") = true ∧ SS.contains (Str.ofString "seq") = true ∧ SS.contains (Str.ofString "branch") = true ∧ SS.contains (Str.ofString "loop") = true := by decide +kernel
mutual
theorem Tr.ss : ∀ t : Tr, t.ok NM → sS t.v = true
  | .new x, k => by simp only [Tr.v, sS, sSL, kw_ss, nm_ss x k, Bool.and_true]
  | .use x, k => by simp only [Tr.v, sS, sSL, kw_ss, nm_ss x k, Bool.and_true]
  | .drop x, k => by simp only [Tr.v, sS, sSL, kw_ss, nm_ss x k, Bool.and_true]
  | .copy x y, k => by simp only [Tr.v, sS, sSL, kw_ss, nm_ss x k.1, nm_ss y k.2, Bool.and_true]
  | .seq ps, k => by simp only [Tr.v, sS, sSL, kw_ss, Tr.sss ps k.2, Bool.and_true]
  | .branch ps, k => by simp only [Tr.v, sS, sSL, kw_ss, Tr.sss ps k.2, Bool.and_true]
  | .loop p, k => by simp only [Tr.v, sS, sSL, kw_ss, Tr.ss p k, Bool.and_true]
theorem Tr.sss : ∀ ps : List Tr, Tr.oks NM ps → sSL (Tr.vs ps) = true
  | [], _ => rfl
  | p :: ps, k => by simp only [Tr.vs, sSL, Tr.ss p k.1, Tr.sss ps k.2, Bool.and_true]
end
theorem prog_ed {v : AV} (h : ProgA v) : Ed v := by
  obtain ⟨t, xs, rfl, hs, _, hk, hd, hn, _⟩ := h
  have k := Tr.ok_mono (fun x hx => hs.subset hx) t hk
  exact ⟨(Tr.fits k hn hd).mono (by omega) (by omega), Tr.ss t k⟩
abbrev Wt (v : AV) : Prop := Tg 10000 80 v
theorem law01_ok (T : Nat → Fn) (hh : HandOk (T i13_law_hand)) (hz : ∀ n, Draws (T i14_law_size) n [.loc n] 1 (fun v => ∃ i : Int, v = .int i ∧ 4 ≤ i ∧ i ≤ 40)) (hp : ProgOk (T i15_law_program)) (he : EdgesOk (T i16_law_edges)) (hof : OfOk (T i3_law_of)) (hb : Bent1 (T i9_law_bent) 6) (hod : OddOk (T i8_law_odd))
    (h1 : NameOk (T i1_is_name)) (h2 : ProgBOk (T i17_is_program)) (g1 : NameOk (T i10_law_is_name)) (g2 : LProgOk (T i18_law_is_program)) (ns : List Int) : wp (fnR 10 1 (m422_law T) [.scr ns] []) fun v _ => v = .bl true := by
  refine fn_wp rfl ?_
  simp only [startA_s, List.map_cons, List.map_nil, List.length_cons, List.length_nil, Nat.reduceAdd, Nat.reduceSub, List.replicate_succ, List.replicate_zero, List.cons_append, List.nil_append]
  unfold m422_law
  (decreasing_trivial; repeat ((first | (with_reducible (refine w_len (by simp; done) ?_)) | (with_reducible (refine w_pow (by decide) (by decide) (by decide) ?_)) | fail); decreasing_trivial))
  have b : ∃ j : Int, (if (if (ns.length : Int) < 3 then (ns.length : Int) else 3) > 1 then (if (ns.length : Int) < 3 then (ns.length : Int) else 3) else 1) = j ∧ 1 ≤ j ∧ j ≤ 3 := ⟨_, rfl, by split <;> split <;> omega, by split <;> split <;> omega⟩
  obtain ⟨j, ej, j1, j2⟩ := b
  rw [ej]
  refine ⟨by omega, by omega, ?_⟩
  have hrl : (rangeL 0 j.toNat).length = j.toNat := by simp [rangeL]
  refine wo_dat (fun i ρ τ => ∃ x1 x2 x3 x4 x5 x6 x7 x8, ρ = [some (.scr ns), x1, x2, x3, x4, x5, x6, x7, x8, none]) ?_ ?_ FUEL 0 _ _ (by rw [hrl]; unfold FUEL; omega) (by omega) ⟨_, _, _, _, _, _, _, _, rfl⟩
  · rintro ρ τ ⟨x1, x2, x3, x4, x5, x6, x7, x8, rfl⟩
    (decreasing_trivial; repeat ((first | (with_reducible (refine w_len (by simp; done) ?_)) | (with_reducible (refine w_pow (by decide) (by decide) (by decide) ?_)) | fail); decreasing_trivial))
    exact ⟨rfl, fun i o hi => absurd hi (by simp), rfl⟩
  · rintro i v ρ μ hv ⟨x1, x2, x3, x4, x5, x6, x7, x8, rfl⟩
    obtain ⟨rfl, hi⟩ := rng_mem hv
    refine ⟨_, rfl, ?_⟩
    refine o_seq2 (fun ρ1 τ => Hst τ μ.length 0 ∧ ρ1 = [some (.scr ns), some (.int i), some (.loc μ.length), x3, x4, x5, x6, x7, x8, none]) ?_ ?_
    · (decreasing_trivial; repeat ((first | (with_reducible (refine w_len (by simp; done) ?_)) | (with_reducible (refine w_pow (by decide) (by decide) (by decide) ?_)) | fail); decreasing_trivial))
      refine (hh ns i μ (by omega) (by omega)).mono fun u τ ⟨e1, e2, e3, e4⟩ => ?_
      subst e1
      exact ⟨e4, rfl⟩
    · rintro ρ1 τ ⟨hst, rfl⟩
      generalize μ.length = n at *
      refine o_seq2 (fun ρ1 σ => Hst σ n 20000 ∧ ∃ ss, ss ≠ [] ∧ ss.length ≤ 45 ∧ (∀ x ∈ ss, Ed x) ∧ ρ1 = [some (.scr ns), some (.int i), some (.loc n), some (.lst ss), x4, x5, x6, x7, x8, none]) ?_ ?_
      · (decreasing_trivial; repeat ((first | (with_reducible (refine w_len (by simp; done) ?_)) | (with_reducible (refine w_pow (by decide) (by decide) (by decide) ?_)) | fail); decreasing_trivial))
        refine ⟨by decide, by decide, ?_⟩
        have hrl5 : (rangeL 0 (5 : Int).toNat).length = 5 := by simp [rangeL]
        refine wp_lc (fun i acc σ => Hst σ n (3001 * i) ∧ acc.length = i ∧ ∀ x ∈ acc, Ed x) (by rw [hrl5]; decide) (fun i acc σ h => h.2.1) ?_ ?_ FUEL 0 _ _ (by rw [hrl5]; unfold FUEL; omega) (by omega) ⟨hst, rfl, by simp⟩
        · rintro acc σ ⟨h1, hl, hx⟩
          rw [hrl5] at hl h1
          (decreasing_trivial; repeat ((first | (with_reducible (refine w_len (by simp; done) ?_)) | (with_reducible (refine w_pow (by decide) (by decide) (by decide) ?_)) | fail); decreasing_trivial))
          refine (he n σ _ (by omega) h1).mono fun v σ2 ⟨s2, h2, _, xs, e, hxl, hxe⟩ => ?_
          subst e
          refine ⟨acc, xs, rfl, rfl, by omega, h2.le (by omega), acc ++ xs, ?_, by rw [List.length_append]; omega, ?_, rfl⟩
          · intro z
            have := congrArg List.length z
            rw [List.length_append, List.length_nil] at this
            omega
          · intro x hm
            rcases List.mem_append.mp hm with h | h
            · exact hx x h
            · exact hxe x h
        · rintro i v acc σ hv ⟨h1, hl, hx⟩
          obtain ⟨rfl, hi5⟩ := rng_mem hv
          have hi5 : i < 5 := hi5
          refine ⟨_, rfl, ?_⟩
          (decreasing_trivial; repeat ((first | (with_reducible (refine w_len (by simp; done) ?_)) | (with_reducible (refine w_pow (by decide) (by decide) (by decide) ?_)) | fail); decreasing_trivial))
          refine (hz n σ _ (by omega) h1).mono fun v σ2 ⟨s2, h2, _, q, e, q1, q2⟩ => ?_
          subst e
          (decreasing_trivial; repeat ((first | (with_reducible (refine w_len (by simp; done) ?_)) | (with_reducible (refine w_pow (by decide) (by decide) (by decide) ?_)) | fail); decreasing_trivial))
          refine (hp n q q1 q2 σ2 _ (by omega) h2).mono fun v σ3 ⟨s3, h3, _, hpv⟩ => ?_
          refine ⟨h3.le (by omega), by simp [hl], fun x hm => ?_⟩
          rcases List.mem_append.mp hm with h | h
          · exact hx x h
          · rw [List.mem_singleton.mp h]
            exact prog_ed hpv
      · rintro ρ2 σ ⟨h0, ss, hne, hsl, hss, rfl⟩
        have sw : ∀ x ∈ ss, Wt x := fun x hx => (hss x hx).mono (by omega) (by omega)
        have pss : pureL ss = true := by
          rw [pureL_all, List.all_eq_true]
          exact fun x hx => (hss x hx).1.pure
        refine o_seq2 (fun ρ1 τ2 => τ2 = σ ∧ ∃ ts, ts.length ≤ 56 ∧ (∀ x ∈ ts, Wt x) ∧ ρ1 = [some (.scr ns), some (.int i), some (.loc n), some (.lst ss), some (.lst ts), x5, x6, x7, x8, none]) ?_ ?_
        · (decreasing_trivial; repeat ((first | (with_reducible (refine w_len (by simp; done) ?_)) | (with_reducible (refine w_pow (by decide) (by decide) (by decide) ?_)) | fail); decreasing_trivial))
          refine ⟨ss, _, rfl, rfl, by simp; omega, rfl, _, by simp; omega, ?_, rfl⟩
          intro x hm
          rcases List.mem_append.mp hm with h | h
          · exact sw x h
          · simp only [List.mem_cons, List.not_mem_nil, or_false] at h
            rcases h with h | h | h | h | h | h | h | h | h | h | h <;> subst h <;> exact ⟨Fit.mono (c := 60) (d := 5) ⟨by decide +kernel, by decide +kernel, by decide +kernel⟩ (by omega) (by omega), by decide +kernel⟩
        · rintro ρ3 τ2 ⟨rfl, ts, hl, ht, rfl⟩
          refine o_seq2 (fun ρ1 τ3 => τ3 = τ2 ∧ ∃ ts, ts.length ≤ 61 ∧ (∀ x ∈ ts, Wt x) ∧ ρ1 = [some (.scr ns), some (.int i), some (.loc n), some (.lst ss), some (.lst ts), x5, x6, x7, x8, none]) ?_ ?_
          · (decreasing_trivial; repeat ((first | (with_reducible (refine w_len (by simp; done) ?_)) | (with_reducible (refine w_pow (by decide) (by decide) (by decide) ?_)) | fail); decreasing_trivial))
            refine ⟨ts, _, rfl, rfl, by simp; omega, rfl, _, by simp; omega, ?_, rfl⟩
            intro x hm
            rcases List.mem_append.mp hm with h | h
            · exact ht x h
            · simp only [List.mem_cons, List.not_mem_nil, or_false] at h
              rcases h with h | h | h | h | h <;> subst h <;> exact ⟨Fit.mono (c := 60) (d := 5) ⟨by decide +kernel, by decide +kernel, by decide +kernel⟩ (by omega) (by omega), by decide +kernel⟩
          · clear hl ht ts
            rintro ρ3 τ3 ⟨rfl, ts, hl, ht, rfl⟩
            refine o_seq2 (fun ρ1 τ4 => τ4 = τ3 ∧ ∃ ts, ts.length ≤ 63 ∧ (∀ x ∈ ts, Wt x) ∧ ρ1 = [some (.scr ns), some (.int i), some (.loc n), some (.lst ss), some (.lst ts), x5, x6, x7, x8, none]) ?_ ?_
            · (decreasing_trivial; repeat ((first | (with_reducible (refine w_len (by simp; done) ?_)) | (with_reducible (refine w_pow (by decide) (by decide) (by decide) ?_)) | fail); decreasing_trivial))
              refine ⟨ts, _, rfl, rfl, by simp; omega, rfl, _, by simp; omega, ?_, rfl⟩
              intro x hm
              rcases List.mem_append.mp hm with h | h
              · exact ht x h
              · simp only [List.mem_cons, List.not_mem_nil, or_false] at h
                rcases h with h | h <;> subst h <;> exact ⟨Fit.mono (c := 60) (d := 5) ⟨by decide +kernel, by decide +kernel, by decide +kernel⟩ (by omega) (by omega), by decide +kernel⟩
            · clear hl ht ts
              rintro ρ3 τ4 ⟨rfl, ts, hl, ht, rfl⟩
              refine o_seq2 (fun ρ1 τ5 => Hst τ5 n 100000 ∧ ∃ ts, ts.length ≤ 103 ∧ (∀ x ∈ ts, Wt x) ∧ ρ1 = [some (.scr ns), some (.int i), some (.loc n), some (.lst ss), some (.lst ts), x5, x6, x7, x8, none]) ?_ ?_
              · (decreasing_trivial; repeat ((first | (with_reducible (refine w_len (by simp; done) ?_)) | (with_reducible (refine w_pow (by decide) (by decide) (by decide) ?_)) | fail); decreasing_trivial))
                refine ⟨by decide, by decide, ?_⟩
                have hrl4 : (rangeL 0 (40 : Int).toNat).length = 40 := by simp [rangeL]
                refine wp_lc (fun i acc σ => Hst σ n (20000 + 1401 * i) ∧ acc.length = i ∧ ∀ x ∈ acc, Wt x) (by rw [hrl4]; decide) (fun i acc σ h => h.2.1) ?_ ?_ FUEL 0 _ _ (by rw [hrl4]; unfold FUEL; omega) (by omega) ⟨h0, rfl, by simp⟩
                · rintro acc σ5 ⟨h5, hl5, hx5⟩
                  rw [hrl4] at hl5 h5
                  refine ⟨ts, acc, rfl, rfl, by omega, ?_⟩
                  refine ⟨h5.le (by omega), ts ++ acc, by rw [List.length_append]; omega, ?_, rfl⟩
                  intro x hm
                  rcases List.mem_append.mp hm with h | h
                  · exact ht x h
                  · exact hx5 x h
                · rintro i5 v acc σ5 hv ⟨h5, hl5, hx5⟩
                  obtain ⟨rfl, hi5⟩ := rng_mem hv
                  have hi5 : i5 < 40 := hi5
                  refine ⟨_, rfl, ?_⟩
                  (decreasing_trivial; repeat ((first | (with_reducible (refine w_len (by simp; done) ?_)) | (with_reducible (refine w_pow (by decide) (by decide) (by decide) ?_)) | fail); decreasing_trivial))
                  refine (hof n ss hne (by omega) pss σ5 _ (by omega) h5).mono fun v σ6 ⟨s6, h6, _, hm⟩ => ?_
                  have ev := hss v hm
                  (decreasing_trivial; repeat ((first | (with_reducible (refine w_len (by simp; done) ?_)) | (with_reducible (refine w_pow (by decide) (by decide) (by decide) ?_)) | fail); decreasing_trivial))
                  refine (hb n v _ _ ev.1 ev.2 (by omega) (by omega) σ6 _ (by omega) h6).mono fun u σ7 ⟨s7, h7, _, fu⟩ => ?_
                  refine ⟨h7.le (by omega), by simp [hl5], fun x hm => ?_⟩
                  rcases List.mem_append.mp hm with h | h
                  · exact hx5 x h
                  · rw [List.mem_singleton.mp h]
                    exact (show Tg _ _ u from fu).mono (by omega) (by omega)
              · clear hl ht ts h0
                rintro ρ3 τ5 ⟨h0, ts, hl, ht, rfl⟩
                (decreasing_trivial; repeat ((first | (with_reducible (refine w_len (by simp; done) ?_)) | (with_reducible (refine w_pow (by decide) (by decide) (by decide) ?_)) | fail); decreasing_trivial))
                refine w_anyL ?_
                (decreasing_trivial; repeat ((first | (with_reducible (refine w_len (by simp; done) ?_)) | (with_reducible (refine w_pow (by decide) (by decide) (by decide) ?_)) | fail); decreasing_trivial))
                refine ⟨by decide, by decide, ?_⟩
                have hrl6 : (rangeL 0 (6 : Int).toNat).length = 6 := by simp [rangeL]
                refine wp_lc (fun i acc σ => Hst σ n (100000 + 101 * i) ∧ acc.length = i ∧ ∀ x ∈ acc, Wt x) (by rw [hrl6]; decide) (fun i acc σ h => h.2.1) ?_ ?_ FUEL 0 _ _ (by rw [hrl6]; unfold FUEL; omega) (by omega) ⟨h0, rfl, by simp⟩
                · rintro acc σ6 ⟨h6, hl6, hx6⟩
                  rw [hrl6] at hl6
                  refine ⟨ts, acc, rfl, rfl, by omega, ?_⟩
                  have all : ∀ x ∈ ts ++ acc, Wt x := fun x hm => by
                    rcases List.mem_append.mp hm with h | h
                    · exact ht x h
                    · exact hx6 x h
                  have hal : (ts ++ acc).length ≤ 200 := by rw [List.length_append]; omega
                  generalize ts ++ acc = ys at *
                  refine ⟨_, rfl, ?_⟩
                  refine wo_dat (fun i2 ρ τ' => ∃ x5 x6 x7 x8, ρ = [some (.scr ns), some (.int i), some (.loc n), some (.lst ss), some (.lst ts), x5, x6, x7, x8, none]) ?_ ?_ FUEL 0 _ _ (by unfold FUEL; omega) (by omega) ⟨_, _, _, _, rfl⟩
                  · rintro ρ τ' ⟨y5, y6, y7, y8, rfl⟩
                    exact ⟨_, _, _, _, _, _, _, _, rfl⟩
                  · rintro i2 v ρ τ' hv2 ⟨y5, y6, y7, y8, rfl⟩
                    have fv := all v (List.mem_of_getElem? hv2)
                    have tv : Th v := ⟨fv.1.1, fv.2⟩
                    have zv : sz v ≤ 60000 := by have := fv.1.2.1; omega
                    obtain ⟨D, eD, kD⟩ := fv.1.rep (by omega) (by omega)
                    have f3 : Fit 100 5 (.lst [.bl (nameB v), .bl (progB v)]) := (FitL.cons (Fit.bl _) (FitL.cons (Fit.bl _) .nil)).lst.mono (by omega) (by omega)
                    obtain ⟨D2, eD2, kD2⟩ := f3.rep (by omega) (by omega)
                    refine ⟨_, rfl, ?_⟩
                    (decreasing_trivial; repeat ((first | (with_reducible (refine w_len (by simp; done) ?_)) | (with_reducible (refine w_pow (by decide) (by decide) (by decide) ?_)) | fail); decreasing_trivial))
                    refine w_repr eD kD ?_
                    (decreasing_trivial; repeat ((first | (with_reducible (refine w_len (by simp; done) ?_)) | (with_reducible (refine w_pow (by decide) (by decide) (by decide) ?_)) | fail); decreasing_trivial))
                    refine (h1 v tv τ').mono fun u σ ⟨e1, e2⟩ => ?_
                    subst e1 e2
                    (decreasing_trivial; repeat ((first | (with_reducible (refine w_len (by simp; done) ?_)) | (with_reducible (refine w_pow (by decide) (by decide) (by decide) ?_)) | fail); decreasing_trivial))
                    refine (h2 v tv zv σ).mono fun u σ ⟨e1, e2⟩ => ?_
                    subst e1 e2
                    (decreasing_trivial; repeat ((first | (with_reducible (refine w_len (by simp; done) ?_)) | (with_reducible (refine w_pow (by decide) (by decide) (by decide) ?_)) | fail); decreasing_trivial))
                    refine (g1 v tv σ).mono fun u σ ⟨e1, e2⟩ => ?_
                    subst e1 e2
                    (decreasing_trivial; repeat ((first | (with_reducible (refine w_len (by simp; done) ?_)) | (with_reducible (refine w_pow (by decide) (by decide) (by decide) ?_)) | fail); decreasing_trivial))
                    refine (g2 v tv zv σ).mono fun u σ ⟨e1, e2⟩ => ?_
                    subst e1 e2
                    (decreasing_trivial; repeat ((first | (with_reducible (refine w_len (by simp; done) ?_)) | (with_reducible (refine w_pow (by decide) (by decide) (by decide) ?_)) | fail); decreasing_trivial))
                    refine w_repr eD2 kD2 ?_
                    (decreasing_trivial; repeat ((first | (with_reducible (refine w_len (by simp; done) ?_)) | (with_reducible (refine w_pow (by decide) (by decide) (by decide) ?_)) | fail); decreasing_trivial))
                    refine w_repr eD2 kD2 ?_
                    refine ne_same ?_
                    refine ⟨_, rfl, ?_⟩
                    rw [if_neg (by simp)]
                    (decreasing_trivial; repeat ((first | (with_reducible (refine w_len (by simp; done) ?_)) | (with_reducible (refine w_pow (by decide) (by decide) (by decide) ?_)) | fail); decreasing_trivial))
                    refine w_repr eD kD ?_
                    (decreasing_trivial; repeat ((first | (with_reducible (refine w_len (by simp; done) ?_)) | (with_reducible (refine w_pow (by decide) (by decide) (by decide) ?_)) | fail); decreasing_trivial))
                    refine ne_same ?_
                    refine ⟨_, rfl, ?_⟩
                    rw [if_neg (by simp)]
                    (decreasing_trivial; repeat ((first | (with_reducible (refine w_len (by simp; done) ?_)) | (with_reducible (refine w_pow (by decide) (by decide) (by decide) ?_)) | fail); decreasing_trivial))
                    exact ⟨_, _, _, _, rfl⟩
                · rintro i6 v acc σ6 hv ⟨h6, hl6, hx6⟩
                  obtain ⟨rfl, hi6⟩ := rng_mem hv
                  have hi6 : i6 < 6 := hi6
                  refine ⟨_, rfl, ?_⟩
                  (decreasing_trivial; repeat ((first | (with_reducible (refine w_len (by simp; done) ?_)) | (with_reducible (refine w_pow (by decide) (by decide) (by decide) ?_)) | fail); decreasing_trivial))
                  refine (hod n σ6 _ (by omega) h6).mono fun u σ7 ⟨s7, h7, _, fu⟩ => ?_
                  refine ⟨h7.le (by omega), by simp [hl6], fun x hm => ?_⟩
                  rcases List.mem_append.mp hm with h | h
                  · exact hx6 x h
                  · rw [List.mem_singleton.mp h]
                    exact (show Tg _ _ u from fu).mono (by omega) (by omega)
end Lr

namespace Lr.Own
open PySem PySem.Spec L2 Lr
open PyProof.Rows hiding St
def topS (i : Nat) : Stmt := PySem.Challenge.pw_leanrefs_k01_programs_of_anything.main.body.getD i (.Pass ⟨0, 0, 0, 0⟩)
abbrev s_is_name : Stmt := topS 18
theorem sc_is_name : FnScope ["thing", "letter"] ["thing"] (defScope s_is_name) := ⟨rfl, rfl, rfl, by decide +kernel, rfl, by decide +kernel, by decide +kernel⟩
abbrev s_is_instruction : Stmt := topS 19
theorem sc_is_instruction : FnScope ["thing", "name"] ["thing"] (defScope s_is_instruction) := ⟨rfl, rfl, rfl, by decide +kernel, rfl, by decide +kernel, by decide +kernel⟩
abbrev s_is_composed : Stmt := topS 20
theorem sc_is_composed : FnScope ["thing"] ["thing"] (defScope s_is_composed) := ⟨rfl, rfl, rfl, by decide +kernel, rfl, by decide +kernel, by decide +kernel⟩
abbrev s_parts_of : Stmt := topS 21
theorem sc_parts_of : FnScope ["program"] ["program"] (defScope s_parts_of) := ⟨rfl, rfl, rfl, by decide +kernel, rfl, by decide +kernel, by decide +kernel⟩
abbrev s_is_program : Stmt := topS 22
theorem sc_is_program : FnScope ["thing", "waiting", "count", "found", "here", "depth", "part"] ["thing"] (defScope s_is_program) := ⟨rfl, rfl, rfl, by decide +kernel, rfl, by decide +kernel, by decide +kernel⟩
abbrev s_words_of : Stmt := topS 23
theorem sc_words_of : FnScope ["some", "found", "instruction", "name"] ["some"] (defScope s_words_of) := ⟨rfl, rfl, rfl, by decide +kernel, rfl, by decide +kernel, by decide +kernel⟩
abbrev s__law_hand : Stmt := topS 25
theorem sc__law_hand : FnScope ["_law_script", "_law_k", "_law_cell", "_law_great"] ["_law_script", "_law_k"] (defScope s__law_hand) := ⟨rfl, rfl, rfl, by decide +kernel, rfl, by decide +kernel, by decide +kernel⟩
abbrev s__law_take : Stmt := topS 26
theorem sc__law_take : FnScope ["_law_hand_here", "_law_many", "_law_digit", "_law_prime", "_law_drawn"] ["_law_hand_here", "_law_many"] (defScope s__law_take) := ⟨rfl, rfl, rfl, by decide +kernel, rfl, by decide +kernel, by decide +kernel⟩
abbrev s__law_of : Stmt := topS 27
theorem sc__law_of : FnScope ["_law_hand_here", "_law_some"] ["_law_hand_here", "_law_some"] (defScope s__law_of) := ⟨rfl, rfl, rfl, by decide +kernel, rfl, by decide +kernel, by decide +kernel⟩
abbrev s__law_names : Stmt := topS 28
theorem sc__law_names : FnScope ["_law_hand_here", "_law_count", "_law_left"] ["_law_hand_here", "_law_count"] (defScope s__law_names) := ⟨rfl, rfl, rfl, by decide +kernel, rfl, by decide +kernel, by decide +kernel⟩
abbrev s__law_instruction : Stmt := topS 29
theorem sc__law_instruction : FnScope ["_law_hand_here", "_law_names_here", "_law_way", "_law_name"] ["_law_hand_here", "_law_names_here"] (defScope s__law_instruction) := ⟨rfl, rfl, rfl, by decide +kernel, rfl, by decide +kernel, by decide +kernel⟩
abbrev s__law_tree : Stmt := topS 30
theorem sc__law_tree : FnScope ["_law_hand_here", "_law_names_here", "_law_size_here", "_law_deep", "_law_way", "_law_many", "_law_parts", "_law_spare_part", "_law_part"] ["_law_hand_here", "_law_names_here", "_law_size_here", "_law_deep"] (defScope s__law_tree) := ⟨rfl, rfl, rfl, by decide +kernel, rfl, by decide +kernel, by decide +kernel⟩
abbrev s__law_nodes : Stmt := topS 31
theorem sc__law_nodes : FnScope ["_law_program_here", "_law_part"] ["_law_program_here"] (defScope s__law_nodes) := ⟨rfl, rfl, rfl, by decide +kernel, rfl, by decide +kernel, by decide +kernel⟩
abbrev s__law_program : Stmt := topS 32
theorem sc__law_program : FnScope ["_law_hand_here", "_law_most", "_law_names_here", "_law_tree_here", "_law_head", "_law_tail", "_law_whole", "_law_turn"] ["_law_hand_here", "_law_most"] (defScope s__law_program) := ⟨rfl, rfl, rfl, by decide +kernel, rfl, by decide +kernel, by decide +kernel⟩
abbrev s__law_size : Stmt := topS 33
theorem sc__law_size : FnScope ["_law_hand_here"] ["_law_hand_here"] (defScope s__law_size) := ⟨rfl, rfl, rfl, by decide +kernel, rfl, by decide +kernel, by decide +kernel⟩
abbrev s__law_odd : Stmt := topS 34
theorem sc__law_odd : FnScope ["_law_hand_here", "_law_some", "_law_found", "_law_turn"] ["_law_hand_here"] (defScope s__law_odd) := ⟨rfl, rfl, rfl, by decide +kernel, rfl, by decide +kernel, by decide +kernel⟩
abbrev s__law_bent : Stmt := topS 35
theorem sc__law_bent : FnScope ["_law_hand_here", "_law_thing", "_law_depth", "_law_at", "_law_way"] ["_law_hand_here", "_law_thing", "_law_depth"] (defScope s__law_bent) := ⟨rfl, rfl, rfl, by decide +kernel, rfl, by decide +kernel, by decide +kernel⟩
abbrev s__law_is_name : Stmt := topS 36
theorem sc__law_is_name : FnScope ["_law_thing", "_law_sign"] ["_law_thing"] (defScope s__law_is_name) := ⟨rfl, rfl, rfl, by decide +kernel, rfl, by decide +kernel, by decide +kernel⟩
abbrev s__law_is_one : Stmt := topS 37
theorem sc__law_is_one : FnScope ["_law_thing", "_law_name"] ["_law_thing"] (defScope s__law_is_one) := ⟨rfl, rfl, rfl, by decide +kernel, rfl, by decide +kernel, by decide +kernel⟩
abbrev s__law_all_parts : Stmt := topS 38
theorem sc__law_all_parts : FnScope ["_law_thing", "_law_depth", "_law_most", "_law_found", "_law_part"] ["_law_thing", "_law_depth"] (defScope s__law_all_parts) := ⟨rfl, rfl, rfl, by decide +kernel, rfl, by decide +kernel, by decide +kernel⟩
abbrev s__law_is_program : Stmt := topS 39
theorem sc__law_is_program : FnScope ["_law_thing", "_law_found", "_law_some", "_law_known", "_law_part", "_law_name", "_law_depth"] ["_law_thing"] (defScope s__law_is_program) := ⟨rfl, rfl, rfl, by decide +kernel, rfl, by decide +kernel, by decide +kernel⟩
abbrev s__law_edges : Stmt := topS 40
theorem sc__law_edges : FnScope ["_law_hand_here", "_law_leaf", "_law_found", "_law_count", "_law_last", "_law_none", "_law_levels", "_law_deep", "_law_turn", "_law_name"] ["_law_hand_here"] (defScope s__law_edges) := ⟨rfl, rfl, rfl, by decide +kernel, rfl, by decide +kernel, by decide +kernel⟩
abbrev s_law : Stmt := topS 41
theorem sc_law : FnScope ["_law_script", "_law_k", "_law_hand_here", "_law_some", "_law_things", "_law_thing", "_law_noted", "_law_told", "_law_due", "_law_turn"] ["_law_script"] (defScope s_law) := ⟨rfl, rfl, rfl, by decide +kernel, rfl, by decide +kernel, by decide +kernel⟩
def psT : Nat → List Str
  | 1 => ["thing"]
  | 420 => ["thing"]
  | 421 => ["thing"]
  | 19 => ["program"]
  | 17 => ["thing"]
  | 21 => ["some"]
  | 13 => ["_law_script", "_law_k"]
  | 2 => ["_law_hand_here", "_law_many"]
  | 3 => ["_law_hand_here", "_law_some"]
  | 7 => ["_law_hand_here", "_law_count"]
  | 4 => ["_law_hand_here", "_law_names_here"]
  | 5 => ["_law_hand_here", "_law_names_here", "_law_size_here", "_law_deep"]
  | 6 => ["_law_program_here"]
  | 15 => ["_law_hand_here", "_law_most"]
  | 14 => ["_law_hand_here"]
  | 8 => ["_law_hand_here"]
  | 9 => ["_law_hand_here", "_law_thing", "_law_depth"]
  | 10 => ["_law_thing"]
  | 11 => ["_law_thing"]
  | 12 => ["_law_thing", "_law_depth"]
  | 18 => ["_law_thing"]
  | 16 => ["_law_hand_here"]
  | 422 => ["_law_script"]
  | _ => []
def ids : List Nat := [1, 420, 421, 19, 17, 21, 13, 2, 3, 7, 4, 5, 6, 15, 14, 8, 9, 10, 11, 12, 18, 16, 422]
noncomputable def tab (T : Nat → Fn) : Nat → Fn
  | 1 => fnR 2 1 (m1_is_name T)
  | 420 => fnR 2 1 (m420_is_instruction T)
  | 421 => fnR 1 1 (m421_is_composed T)
  | 19 => fnR 1 1 (m19_parts_of T)
  | 17 => fnR 7 1 (m17_is_program T)
  | 21 => fnR 4 1 (m21_words_of T)
  | 13 => fnR 4 2 (m13_law_hand T)
  | 2 => fnR 5 2 (m2_law_take T)
  | 3 => fnR 2 2 (m3_law_of T)
  | 7 => fnR 3 2 (m7_law_names T)
  | 4 => fnR 4 2 (m4_law_instruction T)
  | 5 => fnR 9 4 (m5_law_tree T)
  | 6 => fnR 2 1 (m6_law_nodes T)
  | 15 => fnR 8 2 (m15_law_program T)
  | 14 => fnR 1 1 (m14_law_size T)
  | 8 => fnR 4 1 (m8_law_odd T)
  | 9 => fnR 5 3 (m9_law_bent T)
  | 10 => fnR 2 1 (m10_law_is_name T)
  | 11 => fnR 2 1 (m11_law_is_one T)
  | 12 => fnR 5 2 (m12_law_all_parts T)
  | 18 => fnR 7 1 (m18_law_is_program T)
  | 16 => fnR 10 1 (m16_law_edges T)
  | 422 => fnR 10 1 (m422_law T)
  | _ => fun _ _ => .bad
noncomputable def T : Nat → Nat → Fn
  | 0 => fun _ _ _ => .bad
  | k + 1 => tab (T k)
structure Md (K : PySem.W.Frag) (mg : Str → Option Value) (f : Nat → Addr) (fd : Nat → FuncData) : Prop where
  F_is_name : Fun K "is_name" "is_name" s_is_name (f i1_is_name) (fd i1_is_name)
  g_is_name : mg "is_name" = some (.ref (f i1_is_name))
  a_is_name : Binds K (fd i1_is_name) ["thing"] []
  F_is_instruction : Fun K "is_instruction" "is_instruction" s_is_instruction (f i420_is_instruction) (fd i420_is_instruction)
  g_is_instruction : mg "is_instruction" = some (.ref (f i420_is_instruction))
  a_is_instruction : Binds K (fd i420_is_instruction) ["thing"] []
  F_is_composed : Fun K "is_composed" "is_composed" s_is_composed (f i421_is_composed) (fd i421_is_composed)
  g_is_composed : mg "is_composed" = some (.ref (f i421_is_composed))
  a_is_composed : Binds K (fd i421_is_composed) ["thing"] []
  F_parts_of : Fun K "parts_of" "parts_of" s_parts_of (f i19_parts_of) (fd i19_parts_of)
  g_parts_of : mg "parts_of" = some (.ref (f i19_parts_of))
  a_parts_of : Binds K (fd i19_parts_of) ["program"] []
  F_is_program : Fun K "is_program" "is_program" s_is_program (f i17_is_program) (fd i17_is_program)
  g_is_program : mg "is_program" = some (.ref (f i17_is_program))
  a_is_program : Binds K (fd i17_is_program) ["thing"] []
  F_words_of : Fun K "words_of" "words_of" s_words_of (f i21_words_of) (fd i21_words_of)
  g_words_of : mg "words_of" = some (.ref (f i21_words_of))
  a_words_of : Binds K (fd i21_words_of) ["some"] []
  F__law_hand : Fun K "_law_hand" "_law_hand" s__law_hand (f i13_law_hand) (fd i13_law_hand)
  g__law_hand : mg "_law_hand" = some (.ref (f i13_law_hand))
  a__law_hand : Binds K (fd i13_law_hand) ["_law_script", "_law_k"] []
  F__law_take : Fun K "_law_take" "_law_take" s__law_take (f i2_law_take) (fd i2_law_take)
  g__law_take : mg "_law_take" = some (.ref (f i2_law_take))
  a__law_take : Binds K (fd i2_law_take) ["_law_hand_here", "_law_many"] []
  F__law_of : Fun K "_law_of" "_law_of" s__law_of (f i3_law_of) (fd i3_law_of)
  g__law_of : mg "_law_of" = some (.ref (f i3_law_of))
  a__law_of : Binds K (fd i3_law_of) ["_law_hand_here", "_law_some"] []
  F__law_names : Fun K "_law_names" "_law_names" s__law_names (f i7_law_names) (fd i7_law_names)
  g__law_names : mg "_law_names" = some (.ref (f i7_law_names))
  a__law_names : Binds K (fd i7_law_names) ["_law_hand_here", "_law_count"] []
  F__law_instruction : Fun K "_law_instruction" "_law_instruction" s__law_instruction (f i4_law_instruction) (fd i4_law_instruction)
  g__law_instruction : mg "_law_instruction" = some (.ref (f i4_law_instruction))
  a__law_instruction : Binds K (fd i4_law_instruction) ["_law_hand_here", "_law_names_here"] []
  F__law_tree : Fun K "_law_tree" "_law_tree" s__law_tree (f i5_law_tree) (fd i5_law_tree)
  g__law_tree : mg "_law_tree" = some (.ref (f i5_law_tree))
  a__law_tree : Binds K (fd i5_law_tree) ["_law_hand_here", "_law_names_here", "_law_size_here", "_law_deep"] []
  F__law_nodes : Fun K "_law_nodes" "_law_nodes" s__law_nodes (f i6_law_nodes) (fd i6_law_nodes)
  g__law_nodes : mg "_law_nodes" = some (.ref (f i6_law_nodes))
  a__law_nodes : Binds K (fd i6_law_nodes) ["_law_program_here"] []
  F__law_program : Fun K "_law_program" "_law_program" s__law_program (f i15_law_program) (fd i15_law_program)
  g__law_program : mg "_law_program" = some (.ref (f i15_law_program))
  a__law_program : Binds K (fd i15_law_program) ["_law_hand_here", "_law_most"] []
  F__law_size : Fun K "_law_size" "_law_size" s__law_size (f i14_law_size) (fd i14_law_size)
  g__law_size : mg "_law_size" = some (.ref (f i14_law_size))
  a__law_size : Binds K (fd i14_law_size) ["_law_hand_here"] []
  F__law_odd : Fun K "_law_odd" "_law_odd" s__law_odd (f i8_law_odd) (fd i8_law_odd)
  g__law_odd : mg "_law_odd" = some (.ref (f i8_law_odd))
  a__law_odd : Binds K (fd i8_law_odd) ["_law_hand_here"] []
  F__law_bent : Fun K "_law_bent" "_law_bent" s__law_bent (f i9_law_bent) (fd i9_law_bent)
  g__law_bent : mg "_law_bent" = some (.ref (f i9_law_bent))
  a__law_bent : Binds K (fd i9_law_bent) ["_law_hand_here", "_law_thing", "_law_depth"] []
  F__law_is_name : Fun K "_law_is_name" "_law_is_name" s__law_is_name (f i10_law_is_name) (fd i10_law_is_name)
  g__law_is_name : mg "_law_is_name" = some (.ref (f i10_law_is_name))
  a__law_is_name : Binds K (fd i10_law_is_name) ["_law_thing"] []
  F__law_is_one : Fun K "_law_is_one" "_law_is_one" s__law_is_one (f i11_law_is_one) (fd i11_law_is_one)
  g__law_is_one : mg "_law_is_one" = some (.ref (f i11_law_is_one))
  a__law_is_one : Binds K (fd i11_law_is_one) ["_law_thing"] []
  F__law_all_parts : Fun K "_law_all_parts" "_law_all_parts" s__law_all_parts (f i12_law_all_parts) (fd i12_law_all_parts)
  g__law_all_parts : mg "_law_all_parts" = some (.ref (f i12_law_all_parts))
  a__law_all_parts : Binds K (fd i12_law_all_parts) ["_law_thing", "_law_depth"] []
  F__law_is_program : Fun K "_law_is_program" "_law_is_program" s__law_is_program (f i18_law_is_program) (fd i18_law_is_program)
  g__law_is_program : mg "_law_is_program" = some (.ref (f i18_law_is_program))
  a__law_is_program : Binds K (fd i18_law_is_program) ["_law_thing"] []
  F__law_edges : Fun K "_law_edges" "_law_edges" s__law_edges (f i16_law_edges) (fd i16_law_edges)
  g__law_edges : mg "_law_edges" = some (.ref (f i16_law_edges))
  a__law_edges : Binds K (fd i16_law_edges) ["_law_hand_here"] []
  F_law : Fun K "law" "law" s_law (f i422_law) (fd i422_law)
  g_law : mg "law" = some (.ref (f i422_law))
  a_law : Binds K (fd i422_law) ["_law_script"] []
  b_isinstance : mg "isinstance" = none
  b_str : mg "str" = none
  b_len : mg "len" = none
  c_MOST_LETTERS : ∃ t, mg "MOST_LETTERS" = some (.int 8 t)
  b_all : mg "all" = none
  c_LETTERS : ∃ t, mg "LETTERS" = some (.str "abcdefghijklmnopqrstuvwxyz" t)
  b_tuple : mg "tuple" = none
  c_NEW : ∃ t, mg "NEW" = some (.str "new" t)
  c_COPY : ∃ t, mg "COPY" = some (.str "copy" t)
  c_USE : ∃ t, mg "USE" = some (.str "use" t)
  c_DROP : ∃ t, mg "DROP" = some (.str "drop" t)
  c_COPY_PARTS : ∃ t, mg "COPY_PARTS" = some (.int 3 t)
  c_PAIR : ∃ t, mg "PAIR" = some (.int 2 t)
  c_LOOP : ∃ t, mg "LOOP" = some (.str "loop" t)
  c_SEQ : ∃ t, mg "SEQ" = some (.str "seq" t)
  c_MOST_PARTS : ∃ t, mg "MOST_PARTS" = some (.int 20 t)
  c_BRANCH : ∃ t, mg "BRANCH" = some (.str "branch" t)
  c_MOST_BRANCHES : ∃ t, mg "MOST_BRANCHES" = some (.int 6 t)
  c_MOST_PROGRAMS : ∃ t, mg "MOST_PROGRAMS" = some (.int 60 t)
  c_MOST_DEPTH : ∃ t, mg "MOST_DEPTH" = some (.int 8 t)
  c_MOST_INSTRUCTIONS : ∃ t, mg "MOST_INSTRUCTIONS" = some (.int 40 t)
  c_MOST_NAMES : ∃ t, mg "MOST_NAMES" = some (.int 8 t)
  b_sorted : mg "sorted" = none
  b_abs : mg "abs" = none
  b_int : mg "int" = none
  b_min : mg "min" = none
  b_range : mg "range" = none
  b_sum : mg "sum" = none
  b_max : mg "max" = none
  b_list : mg "list" = none
  b_any : mg "any" = none
  b_repr : mg "repr" = none
section
variable {κ : Nat → Addr} {P : Program} {w : World} {K : PySem.W.Frag} {mg : Str → Option Value} {base : Heap} {f : Nat → Addr} {fd : Nat → FuncData} {T : Nat → Fn} {k : Nat}
theorem ok_is_name (M : Md K mg f fd) (sm : ∃ o, base.get? sysModules = some o) (IH : ∀ i ∈ ids, FnD κ P w K mg base k (f i) (fd i) (psT i) (T i)) : FnD κ P w K mg base (k + 1) (f i1_is_name) (fd i1_is_name) ["thing"] (fnR 2 1 (m1_is_name T)) :=
  FnD.of M.F_is_name sc_is_name sm fun cdv A outer s H E cl => (DSs.cons (DS.ifs (DW.t (DW.or (DT.not (DT.truth (DE.callB ca_isi (by rfl) M.b_isinstance rfl (DA.cons (DE.var 0) (DA.cons (DE.tyname (by rfl) M.b_str rfl) DA.nil))))) (DW.or1 (DT.not (DT.chain op_gLe op_gLe DE.int (DE.callB ca_len (by rfl) M.b_len rfl (DA.cons (DE.var 0) DA.nil)) (let ⟨_, h⟩ := M.c_MOST_LETTERS; DE.gint (by rfl) h)))))) (DSs.one (DS.ret DE.bl)) DSs.nil) (DSs.one (DS.ret (DE.callB (ca_all cl) (by rfl) M.b_all rfl (DA.cons (DN.dat (DN.lcc (own := [("letter", 1)]) cl (DI.str (DE.var 0)) (blkOk_by (by rfl)) (fun _ h => h) (fun s H D d fp cl1 => (DG.name (i := 1) cl1.nd rfl (by first | exact Or.inl rfl | exact Or.inr rfl))) (fun s H D d fp cl1 => lc_all) (fun s H D d fp cl1 => (DE.cmp (op_gIn cl1) (DE.var 1) (let ⟨_, h⟩ := M.c_LETTERS; DE.gstr (by rfl) h))))) DA.nil)))))
theorem ok_is_instruction (M : Md K mg f fd) (sm : ∃ o, base.get? sysModules = some o) (IH : ∀ i ∈ ids, FnD κ P w K mg base k (f i) (fd i) (psT i) (T i)) : FnD κ P w K mg base (k + 1) (f i420_is_instruction) (fd i420_is_instruction) ["thing"] (fnR 2 1 (m420_is_instruction T)) :=
  FnD.of M.F_is_instruction sc_is_instruction sm fun cdv A outer s H E cl => (DSs.cons (DS.ifs (DW.t (DW.or (DT.not (DT.truth (DE.callB ca_isi (by rfl) M.b_isinstance rfl (DA.cons (DE.var 0) (DA.cons (DE.tyname (by rfl) M.b_tuple rfl) DA.nil))))) (DW.or (DT.cmp (op_gEq cl) (DE.var 0) (DE.tup DA.nil)) (DW.or1 (DT.not (DT.truth (DE.callB ca_isi (by rfl) M.b_isinstance rfl (DA.cons (DE.ix ix_gIx (DE.var 0) DE.int) (DA.cons (DE.tyname (by rfl) M.b_str rfl) DA.nil))))))))) (DSs.one (DS.ret DE.bl)) DSs.nil) (DSs.cons (DS.ifs (DW.t (DW.or (DT.cmp (op_gNotIn cl) (DE.ix ix_gIx (DE.var 0) DE.int) (DE.tup (DA.cons (let ⟨_, h⟩ := M.c_NEW; DE.gstr (by rfl) h) (DA.cons (let ⟨_, h⟩ := M.c_COPY; DE.gstr (by rfl) h) (DA.cons (let ⟨_, h⟩ := M.c_USE; DE.gstr (by rfl) h) (DA.cons (let ⟨_, h⟩ := M.c_DROP; DE.gstr (by rfl) h) DA.nil)))))) (DW.or1 (DT.cmp (op_gNe cl) (DE.callB ca_len (by rfl) M.b_len rfl (DA.cons (DE.var 0) DA.nil)) (DE.ifx (DT.cmp (op_gEq cl) (DE.ix ix_gIx (DE.var 0) DE.int) (let ⟨_, h⟩ := M.c_COPY; DE.gstr (by rfl) h)) (let ⟨_, h⟩ := M.c_COPY_PARTS; DE.gint (by rfl) h) (let ⟨_, h⟩ := M.c_PAIR; DE.gint (by rfl) h)))))) (DSs.one (DS.ret DE.bl)) DSs.nil) (DSs.one (DS.ret (DE.callB (ca_all cl) (by rfl) M.b_all rfl (DA.cons (DN.dat (DN.lcc (own := [("name", 1)]) cl (DI.any (DE.sl (DE.var 0) (DO.some DE.int) DO.none)) (blkOk_by (by rfl)) (fun _ h => h) (fun s H D d fp cl1 => (DG.name (i := 1) cl1.nd rfl (by first | exact Or.inl rfl | exact Or.inr rfl))) (fun s H D d fp cl1 => lc_all) (fun s H D d fp cl1 => (DE.call cl1 (IH i1_is_name (by decide)) (by rfl) M.g_is_name M.F_is_name.kp M.a_is_name (DA.cons (DE.var 1) DA.nil))))) DA.nil))))))
theorem ok_is_composed (M : Md K mg f fd) (sm : ∃ o, base.get? sysModules = some o) (IH : ∀ i ∈ ids, FnD κ P w K mg base k (f i) (fd i) (psT i) (T i)) : FnD κ P w K mg base (k + 1) (f i421_is_composed) (fd i421_is_composed) ["thing"] (fnR 1 1 (m421_is_composed T)) :=
  FnD.of M.F_is_composed sc_is_composed sm fun cdv A outer s H E cl => (DSs.cons (DS.ifs (DW.t (DW.or (DT.not (DT.truth (DE.callB ca_isi (by rfl) M.b_isinstance rfl (DA.cons (DE.var 0) (DA.cons (DE.tyname (by rfl) M.b_tuple rfl) DA.nil))))) (DW.or (DT.cmp (op_gNe cl) (DE.callB ca_len (by rfl) M.b_len rfl (DA.cons (DE.var 0) DA.nil)) (let ⟨_, h⟩ := M.c_PAIR; DE.gint (by rfl) h)) (DW.or1 (DT.not (DT.truth (DE.callB ca_isi (by rfl) M.b_isinstance rfl (DA.cons (DE.ix ix_gIx (DE.var 0) DE.int) (DA.cons (DE.tyname (by rfl) M.b_str rfl) DA.nil))))))))) (DSs.one (DS.ret DE.bl)) DSs.nil) (DSs.cons (DS.ifs (DT.cmp (op_gEq cl) (DE.ix ix_gIx (DE.var 0) DE.int) (let ⟨_, h⟩ := M.c_LOOP; DE.gstr (by rfl) h)) (DSs.one (DS.ret DE.bl)) DSs.nil) (DSs.cons (DS.ifs (DT.not (DT.truth (DE.callB ca_isi (by rfl) M.b_isinstance rfl (DA.cons (DE.ix ix_gIx (DE.var 0) DE.int) (DA.cons (DE.tyname (by rfl) M.b_tuple rfl) DA.nil))))) (DSs.one (DS.ret DE.bl)) DSs.nil) (DSs.one (DS.ret (DE.or (DE.and (DE.cmp (op_gEq cl) (DE.ix ix_gIx (DE.var 0) DE.int) (let ⟨_, h⟩ := M.c_SEQ; DE.gstr (by rfl) h)) (DE.one (DE.cmp op_gLe (DE.callB ca_len (by rfl) M.b_len rfl (DA.cons (DE.ix ix_gIx (DE.var 0) DE.int) DA.nil)) (let ⟨_, h⟩ := M.c_MOST_PARTS; DE.gint (by rfl) h)))) (DE.one (DE.and (DE.cmp (op_gEq cl) (DE.ix ix_gIx (DE.var 0) DE.int) (let ⟨_, h⟩ := M.c_BRANCH; DE.gstr (by rfl) h)) (DE.one (DE.chain op_gLe op_gLe DE.int (DE.callB ca_len (by rfl) M.b_len rfl (DA.cons (DE.ix ix_gIx (DE.var 0) DE.int) DA.nil)) (let ⟨_, h⟩ := M.c_MOST_BRANCHES; DE.gint (by rfl) h)))))))))))
theorem ok_parts_of (M : Md K mg f fd) (sm : ∃ o, base.get? sysModules = some o) (IH : ∀ i ∈ ids, FnD κ P w K mg base k (f i) (fd i) (psT i) (T i)) : FnD κ P w K mg base (k + 1) (f i19_parts_of) (fd i19_parts_of) ["program"] (fnR 1 1 (m19_parts_of T)) :=
  FnD.of M.F_parts_of sc_parts_of sm fun cdv A outer s H E cl => (DSs.cons (DS.ifs (DT.cmp (op_gEq cl) (DE.ix ix_gIx (DE.var 0) DE.int) (let ⟨_, h⟩ := M.c_LOOP; DE.gstr (by rfl) h)) (DSs.one (DS.ret (DE.sl (DE.var 0) (DO.some DE.int) DO.none))) DSs.nil) (DSs.one (DS.ret (DE.ifx (DT.cmp (op_gIn cl) (DE.ix ix_gIx (DE.var 0) DE.int) (DE.tup (DA.cons (let ⟨_, h⟩ := M.c_SEQ; DE.gstr (by rfl) h) (DA.cons (let ⟨_, h⟩ := M.c_BRANCH; DE.gstr (by rfl) h) DA.nil)))) (DE.ix ix_gIx (DE.var 0) DE.int) (DE.tup DA.nil)))))
theorem ok_is_program (M : Md K mg f fd) (sm : ∃ o, base.get? sysModules = some o) (IH : ∀ i ∈ ids, FnD κ P w K mg base k (f i) (fd i) (psT i) (T i)) : FnD κ P w K mg base (k + 1) (f i17_is_program) (fd i17_is_program) ["thing"] (fnR 7 1 (m17_is_program T)) :=
  FnD.of M.F_is_program sc_is_program sm fun cdv A outer s H E cl => (DSs.cons (by first | exact (DS.par3 (i := 1) (j := 2) (l := 3) cl.calm cl.nd rfl rfl rfl (by decide) (by decide) (by decide) rfl rfl rfl (DA.cons (DN.new (DN.lst cl (DA.cons (DE.tup (DA.cons (DE.var 0) (DA.cons DE.int DA.nil))) DA.nil))) (DA.cons DE.int (DA.cons (DN.new (DN.lst cl DA.nil)) DA.nil))) rfl) | exact (DS.parG cl.calm (DA.cons (DN.new (DN.lst cl (DA.cons (DE.tup (DA.cons (DE.var 0) (DA.cons DE.int DA.nil))) DA.nil))) (DA.cons DE.int (DA.cons (DN.new (DN.lst cl DA.nil)) DA.nil))) (DGs.cons (DG.name (i := 1) cl.nd rfl (by first | exact Or.inl rfl | exact Or.inr rfl)) (DGs.cons (DG.name (i := 2) cl.nd rfl (by first | exact Or.inl rfl | exact Or.inr rfl)) (DGs.cons (DG.name (i := 3) cl.nd rfl (by first | exact Or.inl rfl | exact Or.inr rfl)) DGs.nil))) (gl1 (gl1 (gl1 gl0))))) (DSs.cons (DS.whl PassesOwn.leaving (DT.cmp (op_gNe cl) (DE.var 1) (DN.dat (DN.lst cl DA.nil))) (DSs.cons (DS.asg (DE.pop0 (DE.var 1)) (DG.tup cl.calm (DGs.cons (DG.name (i := 4) cl.nd rfl (by first | exact Or.inl rfl | exact Or.inr rfl)) (DGs.cons (DG.name (i := 5) cl.nd rfl (by first | exact Or.inl rfl | exact Or.inr rfl)) DGs.nil)) (gl1 (gl1 gl0)))) (DSs.cons (DS.aug (i := 2) cl.nd rfl (by first | exact Or.inl rfl | exact Or.inr rfl) (fun _ => ip_gAdd) DE.int) (DSs.cons (DS.ifs (DW.t (DW.or (DT.cmp op_gGt (DE.var 2) (let ⟨_, h⟩ := M.c_MOST_PROGRAMS; DE.gint (by rfl) h)) (DW.or1 (DT.cmp op_gGt (DE.var 5) (let ⟨_, h⟩ := M.c_MOST_DEPTH; DE.gint (by rfl) h))))) (DSs.one (DS.ret DE.bl)) DSs.nil) (DSs.one (DS.ifs (DT.truth (DE.call cl (IH i420_is_instruction (by decide)) (by rfl) M.g_is_instruction M.F_is_instruction.kp M.a_is_instruction (DA.cons (DE.var 4) DA.nil))) (DSs.one (DS.expr (DE.app (DE.var 3) (DE.var 4)))) (DSs.one (DS.ifs (DT.not (DT.truth (DE.call cl (IH i421_is_composed (by decide)) (by rfl) M.g_is_composed M.F_is_composed.kp M.a_is_composed (DA.cons (DE.var 4) DA.nil)))) (DSs.one (DS.ret DE.bl)) (DSs.one (DS.expr (DE.ext (DE.var 1) (DN.dat (DN.lcc (own := [("part", 6)]) cl (DI.any (DE.call cl (IH i19_parts_of (by decide)) (by rfl) M.g_parts_of M.F_parts_of.kp M.a_parts_of (DA.cons (DE.var 4) DA.nil))) (blkOk_by (by rfl)) (fun _ h => h) (fun s H D d fp cl1 => (DG.name (i := 6) cl1.nd rfl (by first | exact Or.inl rfl | exact Or.inr rfl))) (fun s H D d fp cl1 => lc_all) (fun s H D d fp cl1 => (DE.tup (DA.cons (DE.var 6) (DA.cons (DE.op op_gAdd (DE.var 5) DE.int) DA.nil))))))))))))))))) (DSs.one (DS.ret (DE.and (DE.cmp op_gLe (DE.callB ca_len (by rfl) M.b_len rfl (DA.cons (DE.var 3) DA.nil)) (let ⟨_, h⟩ := M.c_MOST_INSTRUCTIONS; DE.gint (by rfl) h)) (DE.one (DE.cmp op_gLe (DE.callB ca_len (by rfl) M.b_len rfl (DA.cons (DE.call cl (IH i21_words_of (by decide)) (by rfl) M.g_words_of M.F_words_of.kp M.a_words_of (DA.cons (DE.var 3) DA.nil)) DA.nil)) (let ⟨_, h⟩ := M.c_MOST_NAMES; DE.gint (by rfl) h))))))))
theorem ok_words_of (M : Md K mg f fd) (sm : ∃ o, base.get? sysModules = some o) (IH : ∀ i ∈ ids, FnD κ P w K mg base k (f i) (fd i) (psT i) (T i)) : FnD κ P w K mg base (k + 1) (f i21_words_of) (fd i21_words_of) ["some"] (fnR 4 1 (m21_words_of T)) :=
  FnD.of M.F_words_of sc_words_of sm fun cdv A outer s H E cl => (DSs.cons (DS.set (i := 1) cl.nd rfl (by first | exact Or.inl rfl | exact Or.inr rfl) DE.dnew) (DSs.cons (DS.fr PassesOwn.leaving cl.calm (DI.any (DE.var 0)) (DG.name (i := 2) cl.nd rfl (by first | exact Or.inl rfl | exact Or.inr rfl)) (DSs.one (DS.expr (DE.upd (DE.var 1) (DD.new (DD.dcc (own := [("name", 3)]) cl (DI.any (DE.sl (DE.var 2) (DO.some DE.int) DO.none)) (blkOk_by (by rfl)) (fun _ h => h) (fun s H D d fp cl1 => (DG.name (i := 3) cl1.nd rfl (by first | exact Or.inl rfl | exact Or.inr rfl))) (fun s H D d fp cl1 => lc_all) (fun s H D d fp cl1 => (DE.var 3)) (fun s H D d fp cl1 => DE.bl))))))) (DSs.one (DS.ret (DE.callTy ca_tuple (by rfl) M.b_tuple rfl (DA.cons (DN.dat (DN.callB cl (cn_sortD cl) (by rfl) M.b_sorted rfl (DA.cons (DE.var 1) DA.nil))) DA.nil))))))
theorem ok__law_hand (M : Md K mg f fd) (sm : ∃ o, base.get? sysModules = some o) (IH : ∀ i ∈ ids, FnD κ P w K mg base k (f i) (fd i) (psT i) (T i)) : FnD κ P w K mg base (k + 1) (f i13_law_hand) (fd i13_law_hand) ["_law_script", "_law_k"] (fnR 4 2 (m13_law_hand T)) :=
  FnD.of M.F__law_hand sc__law_hand sm fun cdv A outer s H E cl => (DSs.cons (DS.set (i := 2) cl.nd rfl (by first | exact Or.inl rfl | exact Or.inr rfl) (DE.ifx (DT.cmp op_gLt (DE.var 1) (DE.callB ca_len (by rfl) M.b_len rfl (DA.cons (DE.var 0) DA.nil))) (DE.ix ix_gIx (DE.var 0) (DE.var 1)) DE.int)) (DSs.cons (DS.set (i := 3) cl.nd rfl (by first | exact Or.inl rfl | exact Or.inr rfl) (DE.op op_gMul (DE.op op_gMod (DE.callB ca_abs (by rfl) M.b_abs rfl (DA.cons (DE.var 2) DA.nil)) (DE.op op_gMul (DE.op op_gMul (DE.op op_gPow DE.int DE.int) (DE.op op_gPow DE.int DE.int)) (DE.op op_gPow DE.int DE.int))) (DE.callTy ca_int (by rfl) M.b_int rfl (DA.cons (DE.cmp op_gGe (DE.callB ca_abs (by rfl) M.b_abs rfl (DA.cons (DE.var 2) DA.nil)) (DE.op op_gPow DE.int DE.int)) DA.nil)))) (DSs.one (DS.ret (DN.new (DN.lst cl (DA.cons (DE.var 3) (DA.cons (DE.op op_gMod (DE.op op_gMul (DE.op op_gAdd (DE.op op_gAdd (DE.op op_gMod (DE.var 2) DE.int) (DE.op op_gMul DE.int (DE.var 1))) DE.int) DE.int) DE.int) (DA.cons DE.int DA.nil)))))))))
theorem ok__law_take (M : Md K mg f fd) (sm : ∃ o, base.get? sysModules = some o) (IH : ∀ i ∈ ids, FnD κ P w K mg base k (f i) (fd i) (psT i) (T i)) : FnD κ P w K mg base (k + 1) (f i2_law_take) (fd i2_law_take) ["_law_hand_here", "_law_many"] (fnR 5 2 (m2_law_take T)) :=
  FnD.of M.F__law_take sc__law_take sm fun cdv A outer s H E cl => (DSs.cons (DS.ifs (DT.cmp op_gGt (DE.ix ix_gIx (DE.var 0) DE.int) DE.int) (DSs.cons (DS.set (i := 2) cl.nd rfl (by first | exact Or.inl rfl | exact Or.inr rfl) (DE.op op_gMod (DE.ix ix_gIx (DE.var 0) DE.int) (DE.var 1))) (DSs.cons (DS.sub (DE.var 0) DE.int (DE.op op_gDiv (DE.ix ix_gIx (DE.var 0) DE.int) (DE.var 1))) (DSs.one (DS.ret (DE.var 2))))) DSs.nil) (DSs.cons (DS.sub (DE.var 0) DE.int (DE.op op_gAdd (DE.ix ix_gIx (DE.var 0) DE.int) DE.int)) (DSs.cons (DS.set (i := 3) cl.nd rfl (by first | exact Or.inl rfl | exact Or.inr rfl) (DE.ix ix_gIx (DN.dat (DN.lst cl (DA.cons DE.int (DA.cons DE.int (DA.cons DE.int (DA.cons DE.int (DA.cons DE.int DA.nil))))))) (DE.op op_gMod (DE.ix ix_gIx (DE.var 0) DE.int) DE.int))) (DSs.cons (DS.set (i := 4) cl.nd rfl (by first | exact Or.inl rfl | exact Or.inr rfl) (DE.op op_gMod (DE.op op_gPow (DE.op op_gAdd (DE.ix ix_gIx (DE.var 0) DE.int) (DE.op op_gMul DE.int (DE.ix ix_gIx (DE.var 0) DE.int))) DE.int) (DE.var 3))) (DSs.one (DS.ret (DE.op op_gMod (DE.op op_gDiv (DE.op op_gMod (DE.op op_gMul (DE.var 4) (DE.op op_gAdd (DE.op op_gMod (DE.var 4) DE.int) (DE.ix ix_gIx (DE.var 0) DE.int))) (DE.var 3)) DE.int) (DE.var 1))))))))
theorem ok__law_of (M : Md K mg f fd) (sm : ∃ o, base.get? sysModules = some o) (IH : ∀ i ∈ ids, FnD κ P w K mg base k (f i) (fd i) (psT i) (T i)) : FnD κ P w K mg base (k + 1) (f i3_law_of) (fd i3_law_of) ["_law_hand_here", "_law_some"] (fnR 2 2 (m3_law_of T)) :=
  FnD.of M.F__law_of sc__law_of sm fun cdv A outer s H E cl => (DSs.one (DS.ret (DE.ix ix_gIx (DE.var 1) (DE.call cl (IH i2_law_take (by decide)) (by rfl) M.g__law_take M.F__law_take.kp M.a__law_take (DA.cons (DE.var 0) (DA.cons (DE.callB ca_len (by rfl) M.b_len rfl (DA.cons (DE.var 1) DA.nil)) DA.nil))))))
theorem ok__law_names (M : Md K mg f fd) (sm : ∃ o, base.get? sysModules = some o) (IH : ∀ i ∈ ids, FnD κ P w K mg base k (f i) (fd i) (psT i) (T i)) : FnD κ P w K mg base (k + 1) (f i7_law_names) (fd i7_law_names) ["_law_hand_here", "_law_count"] (fnR 3 2 (m7_law_names T)) :=
  FnD.of M.F__law_names sc__law_names sm fun cdv A outer s H E cl => (DSs.cons (DS.set (i := 2) cl.nd rfl (by first | exact Or.inl rfl | exact Or.inr rfl) (DN.new (DN.lst cl (DA.cons DE.str (DA.cons DE.str (DA.cons DE.str (DA.cons DE.str (DA.cons DE.str (DA.cons DE.str (DA.cons DE.str (DA.cons DE.str (DA.cons DE.str (DA.cons DE.str DA.nil))))))))))))) (DSs.cons (DS.whl PassesOwn.leaving (DT.cmp op_gGt (DE.callB ca_len (by rfl) M.b_len rfl (DA.cons (DE.var 2) DA.nil)) (DE.var 1)) (DSs.one (DS.expr (DE.pop1 (DE.var 2) (DE.call cl (IH i2_law_take (by decide)) (by rfl) M.g__law_take M.F__law_take.kp M.a__law_take (DA.cons (DE.var 0) (DA.cons (DE.callB ca_len (by rfl) M.b_len rfl (DA.cons (DE.var 2) DA.nil)) DA.nil))))))) (DSs.one (DS.ret (DE.var 2)))))
theorem ok__law_instruction (M : Md K mg f fd) (sm : ∃ o, base.get? sysModules = some o) (IH : ∀ i ∈ ids, FnD κ P w K mg base k (f i) (fd i) (psT i) (T i)) : FnD κ P w K mg base (k + 1) (f i4_law_instruction) (fd i4_law_instruction) ["_law_hand_here", "_law_names_here"] (fnR 4 2 (m4_law_instruction T)) :=
  FnD.of M.F__law_instruction sc__law_instruction sm fun cdv A outer s H E cl => (DSs.cons (by first | exact (DS.par2 (i := 2) (j := 3) cl.calm cl.nd rfl rfl (by decide) rfl rfl (DA.cons (DE.call cl (IH i2_law_take (by decide)) (by rfl) M.g__law_take M.F__law_take.kp M.a__law_take (DA.cons (DE.var 0) (DA.cons DE.int DA.nil))) (DA.cons (DE.call cl (IH i3_law_of (by decide)) (by rfl) M.g__law_of M.F__law_of.kp M.a__law_of (DA.cons (DE.var 0) (DA.cons (DE.var 1) DA.nil))) DA.nil)) rfl) | exact (DS.parG cl.calm (DA.cons (DE.call cl (IH i2_law_take (by decide)) (by rfl) M.g__law_take M.F__law_take.kp M.a__law_take (DA.cons (DE.var 0) (DA.cons DE.int DA.nil))) (DA.cons (DE.call cl (IH i3_law_of (by decide)) (by rfl) M.g__law_of M.F__law_of.kp M.a__law_of (DA.cons (DE.var 0) (DA.cons (DE.var 1) DA.nil))) DA.nil)) (DGs.cons (DG.name (i := 2) cl.nd rfl (by first | exact Or.inl rfl | exact Or.inr rfl)) (DGs.cons (DG.name (i := 3) cl.nd rfl (by first | exact Or.inl rfl | exact Or.inr rfl)) DGs.nil)) (gl1 (gl1 gl0)))) (DSs.cons (DS.ifs (DT.cmp op_gLt (DE.var 2) DE.int) (DSs.one (DS.ret (DE.tup (DA.cons DE.str (DA.cons (DE.var 3) DA.nil))))) DSs.nil) (DSs.cons (DS.ifs (DT.cmp op_gLt (DE.var 2) DE.int) (DSs.one (DS.ret (DE.tup (DA.cons DE.str (DA.cons (DE.call cl (IH i3_law_of (by decide)) (by rfl) M.g__law_of M.F__law_of.kp M.a__law_of (DA.cons (DE.var 0) (DA.cons (DE.var 1) DA.nil))) (DA.cons (DE.var 3) DA.nil)))))) DSs.nil) (DSs.one (DS.ret (DE.ifx (DT.cmp op_gLt (DE.var 2) DE.int) (DE.tup (DA.cons DE.str (DA.cons (DE.var 3) DA.nil))) (DE.tup (DA.cons DE.str (DA.cons (DE.var 3) DA.nil)))))))))
theorem ok__law_tree (M : Md K mg f fd) (sm : ∃ o, base.get? sysModules = some o) (IH : ∀ i ∈ ids, FnD κ P w K mg base k (f i) (fd i) (psT i) (T i)) : FnD κ P w K mg base (k + 1) (f i5_law_tree) (fd i5_law_tree) ["_law_hand_here", "_law_names_here", "_law_size_here", "_law_deep"] (fnR 9 4 (m5_law_tree T)) :=
  FnD.of M.F__law_tree sc__law_tree sm fun cdv A outer s H E cl => (DSs.cons (DS.set (i := 4) cl.nd rfl (by first | exact Or.inl rfl | exact Or.inr rfl) (DE.call cl (IH i2_law_take (by decide)) (by rfl) M.g__law_take M.F__law_take.kp M.a__law_take (DA.cons (DE.var 0) (DA.cons DE.int DA.nil)))) (DSs.cons (DS.ifs (DW.t (DW.or (DT.cmp op_gLt (DE.var 2) DE.int) (DW.or (DT.cmp op_gLt (DE.var 3) DE.int) (DW.or1 (DT.cmp (op_gEq cl) (DE.var 4) DE.int))))) (DSs.one (DS.ret (DE.call cl (IH i4_law_instruction (by decide)) (by rfl) M.g__law_instruction M.F__law_instruction.kp M.a__law_instruction (DA.cons (DE.var 0) (DA.cons (DE.var 1) DA.nil))))) DSs.nil) (DSs.cons (DS.ifs (DT.cmp (op_gEq cl) (DE.var 4) DE.int) (DSs.one (DS.ret (DE.tup (DA.cons DE.str (DA.cons (DE.call cl (IH i5_law_tree (by decide)) (by rfl) M.g__law_tree M.F__law_tree.kp M.a__law_tree (DA.cons (DE.var 0) (DA.cons (DE.var 1) (DA.cons (DE.var 2) (DA.cons (DE.op op_gSub (DE.var 3) DE.int) DA.nil))))) DA.nil))))) DSs.nil) (DSs.cons (DS.set (i := 5) cl.nd rfl (by first | exact Or.inl rfl | exact Or.inr rfl) (DE.callB (ca_min cl) (by rfl) M.b_min rfl (DA.cons (DE.var 2) (DA.cons (DE.call cl (IH i3_law_of (by decide)) (by rfl) M.g__law_of M.F__law_of.kp M.a__law_of (DA.cons (DE.var 0) (DA.cons (DN.dat (DN.lst cl (DA.cons DE.int (DA.cons DE.int (DA.cons DE.int (DA.cons DE.int (DA.cons DE.int (DA.cons DE.int (DA.cons (DE.ifx (DT.cmp op_gGt (DE.var 4) DE.int) DE.int DE.int) DA.nil))))))))) DA.nil))) DA.nil)))) (DSs.cons (DS.set (i := 6) cl.nd rfl (by first | exact Or.inl rfl | exact Or.inr rfl) (DE.callTy ca_tuple (by rfl) M.b_tuple rfl (DA.cons (DN.dat (DN.lcc (own := [("_law_part", 8)]) cl (DI.rng1 (by rfl) M.b_range (DA.cons (DE.var 5) DA.nil)) (blkOk_by (by rfl)) (fun _ h => h) (fun s H D d fp cl1 => (DG.name (i := 8) cl1.nd rfl (by first | exact Or.inl rfl | exact Or.inr rfl))) (fun s H D d fp cl1 => lc_all) (fun s H D d fp cl1 => (DE.call cl1 (IH i5_law_tree (by decide)) (by rfl) M.g__law_tree M.F__law_tree.kp M.a__law_tree (DA.cons (DE.var 0) (DA.cons (DE.var 1) (DA.cons (DE.op op_gDiv (DE.var 2) (DE.var 5)) (DA.cons (DE.op op_gSub (DE.var 3) DE.int) DA.nil)))))))) DA.nil))) (DSs.cons (DS.ifs (DT.cmp op_gLt (DE.var 4) DE.int) (DSs.cons (DS.set (i := 7) cl.nd rfl (by first | exact Or.inl rfl | exact Or.inr rfl) (DE.op op_gMul (DE.tup (DA.cons (DE.tup (DA.cons DE.str (DA.cons (DE.tup DA.nil) DA.nil))) DA.nil)) (DE.callTy ca_int (by rfl) M.b_int rfl (DA.cons (DE.cmp (op_gEq cl) (DE.call cl (IH i2_law_take (by decide)) (by rfl) M.g__law_take M.F__law_take.kp M.a__law_take (DA.cons (DE.var 0) (DA.cons DE.int DA.nil))) DE.int) DA.nil)))) (DSs.one (DS.ret (DE.tup (DA.cons DE.str (DA.cons (DE.op op_gAdd (DE.var 6) (DE.var 7)) DA.nil)))))) DSs.nil) (DSs.one (DS.ret (DE.tup (DA.cons DE.str (DA.cons (DE.var 6) DA.nil)))))))))))
theorem ok__law_nodes (M : Md K mg f fd) (sm : ∃ o, base.get? sysModules = some o) (IH : ∀ i ∈ ids, FnD κ P w K mg base k (f i) (fd i) (psT i) (T i)) : FnD κ P w K mg base (k + 1) (f i6_law_nodes) (fd i6_law_nodes) ["_law_program_here"] (fnR 2 1 (m6_law_nodes T)) :=
  FnD.of M.F__law_nodes sc__law_nodes sm fun cdv A outer s H E cl => (DSs.cons (DS.ifs (DT.cmp (op_gEq cl) (DE.ix ix_gIx (DE.var 0) DE.int) DE.str) (DSs.one (DS.ret (DE.op op_gAdd DE.int (DE.call cl (IH i6_law_nodes (by decide)) (by rfl) M.g__law_nodes M.F__law_nodes.kp M.a__law_nodes (DA.cons (DE.ix ix_gIx (DE.var 0) DE.int) DA.nil))))) DSs.nil) (DSs.cons (DS.ifs (DT.cmp (op_gIn cl) (DE.ix ix_gIx (DE.var 0) DE.int) (DE.tup (DA.cons DE.str (DA.cons DE.str DA.nil)))) (DSs.one (DS.ret (DE.op op_gAdd DE.int (DE.callB (ca_sum cl) (by rfl) M.b_sum rfl (DA.cons (DN.dat (DN.lcc (own := [("_law_part", 1)]) cl (DI.any (DE.ix ix_gIx (DE.var 0) DE.int)) (blkOk_by (by rfl)) (fun _ h => h) (fun s H D d fp cl1 => (DG.name (i := 1) cl1.nd rfl (by first | exact Or.inl rfl | exact Or.inr rfl))) (fun s H D d fp cl1 => lc_all) (fun s H D d fp cl1 => (DE.call cl1 (IH i6_law_nodes (by decide)) (by rfl) M.g__law_nodes M.F__law_nodes.kp M.a__law_nodes (DA.cons (DE.var 1) DA.nil))))) DA.nil))))) DSs.nil) (DSs.one (DS.ret DE.int))))
theorem ok__law_program (M : Md K mg f fd) (sm : ∃ o, base.get? sysModules = some o) (IH : ∀ i ∈ ids, FnD κ P w K mg base k (f i) (fd i) (psT i) (T i)) : FnD κ P w K mg base (k + 1) (f i15_law_program) (fd i15_law_program) ["_law_hand_here", "_law_most"] (fnR 8 2 (m15_law_program T)) :=
  FnD.of M.F__law_program sc__law_program sm fun cdv A outer s H E cl => (DSs.cons (DS.set (i := 2) cl.nd rfl (by first | exact Or.inl rfl | exact Or.inr rfl) (DE.call cl (IH i7_law_names (by decide)) (by rfl) M.g__law_names M.F__law_names.kp M.a__law_names (DA.cons (DE.var 0) (DA.cons (DE.call cl (IH i3_law_of (by decide)) (by rfl) M.g__law_of M.F__law_of.kp M.a__law_of (DA.cons (DE.var 0) (DA.cons (DN.dat (DN.lst cl (DA.cons DE.int (DA.cons DE.int (DA.cons DE.int (DA.cons DE.int (DA.cons DE.int (DA.cons DE.int (DA.cons DE.int (DA.cons DE.int (DA.cons DE.int (DA.cons DE.int DA.nil)))))))))))) DA.nil))) DA.nil)))) (DSs.cons (DS.set (i := 3) cl.nd rfl (by first | exact Or.inl rfl | exact Or.inr rfl) (DE.call cl (IH i5_law_tree (by decide)) (by rfl) M.g__law_tree M.F__law_tree.kp M.a__law_tree (DA.cons (DE.var 0) (DA.cons (DE.var 2) (DA.cons (DE.callB (ca_max cl) (by rfl) M.b_max rfl (DA.cons DE.int (DA.cons (DE.op op_gSub (DE.var 1) DE.int) DA.nil))) (DA.cons (DE.call cl (IH i3_law_of (by decide)) (by rfl) M.g__law_of M.F__law_of.kp M.a__law_of (DA.cons (DE.var 0) (DA.cons (DN.dat (DN.lst cl (DA.cons DE.int (DA.cons DE.int (DA.cons DE.int (DA.cons DE.int DA.nil)))))) DA.nil))) DA.nil)))))) (DSs.cons (DS.set (i := 4) cl.nd rfl (by first | exact Or.inl rfl | exact Or.inr rfl) (DE.tup (DA.cons (DE.tup (DA.cons DE.str (DA.cons (DE.call cl (IH i3_law_of (by decide)) (by rfl) M.g__law_of M.F__law_of.kp M.a__law_of (DA.cons (DE.var 0) (DA.cons (DE.var 2) DA.nil))) DA.nil))) (DA.cons (DE.tup (DA.cons DE.str (DA.cons (DE.call cl (IH i3_law_of (by decide)) (by rfl) M.g__law_of M.F__law_of.kp M.a__law_of (DA.cons (DE.var 0) (DA.cons (DE.var 2) DA.nil))) (DA.cons (DE.call cl (IH i3_law_of (by decide)) (by rfl) M.g__law_of M.F__law_of.kp M.a__law_of (DA.cons (DE.var 0) (DA.cons (DE.var 2) DA.nil))) DA.nil)))) DA.nil)))) (DSs.cons (DS.set (i := 5) cl.nd rfl (by first | exact Or.inl rfl | exact Or.inr rfl) (DE.callTy ca_tuple (by rfl) M.b_tuple rfl (DA.cons (DN.dat (DN.lcc (own := [("_law_turn", 7)]) cl (DI.rng1 (by rfl) M.b_range (DA.cons DE.int DA.nil)) (blkOk_by (by rfl)) (fun _ h => h) (fun s H D d fp cl1 => (DG.name (i := 7) cl1.nd rfl (by first | exact Or.inl rfl | exact Or.inr rfl))) (fun s H D d fp cl1 => lc_all) (fun s H D d fp cl1 => (DE.tup (DA.cons DE.str (DA.cons (DE.call cl1 (IH i3_law_of (by decide)) (by rfl) M.g__law_of M.F__law_of.kp M.a__law_of (DA.cons (DE.var 0) (DA.cons (DE.var 2) DA.nil))) DA.nil)))))) DA.nil))) (DSs.cons (DS.set (i := 6) cl.nd rfl (by first | exact Or.inl rfl | exact Or.inr rfl) (DE.tup (DA.cons DE.str (DA.cons (DE.op op_gAdd (DE.op op_gAdd (DE.sl (DE.var 4) DO.none (DO.some (DE.op op_gAdd DE.int (DE.call cl (IH i2_law_take (by decide)) (by rfl) M.g__law_take M.F__law_take.kp M.a__law_take (DA.cons (DE.var 0) (DA.cons DE.int DA.nil)))))) (DE.tup (DA.cons (DE.var 3) DA.nil))) (DE.var 5)) DA.nil)))) (DSs.cons (DS.ifs (DT.cmp op_gGt (DE.call cl (IH i6_law_nodes (by decide)) (by rfl) M.g__law_nodes M.F__law_nodes.kp M.a__law_nodes (DA.cons (DE.var 6) DA.nil)) DE.int) (DSs.one (DS.set (i := 6) cl.nd rfl (by first | exact Or.inl rfl | exact Or.inr rfl) (DE.tup (DA.cons DE.str (DA.cons (DE.op op_gAdd (DE.var 4) (DE.var 5)) DA.nil))))) DSs.nil) (DSs.one (DS.ret (DE.ifx (DW.t (DW.or (DT.cmp op_gGt (DE.call cl (IH i2_law_take (by decide)) (by rfl) M.g__law_take M.F__law_take.kp M.a__law_take (DA.cons (DE.var 0) (DA.cons DE.int DA.nil))) DE.int) (DW.or1 (DT.cmp op_gGt (DE.call cl (IH i6_law_nodes (by decide)) (by rfl) M.g__law_nodes M.F__law_nodes.kp M.a__law_nodes (DA.cons (DE.var 3) DA.nil)) DE.int)))) (DE.var 6) (DE.var 3))))))))))
theorem ok__law_size (M : Md K mg f fd) (sm : ∃ o, base.get? sysModules = some o) (IH : ∀ i ∈ ids, FnD κ P w K mg base k (f i) (fd i) (psT i) (T i)) : FnD κ P w K mg base (k + 1) (f i14_law_size) (fd i14_law_size) ["_law_hand_here"] (fnR 1 1 (m14_law_size T)) :=
  FnD.of M.F__law_size sc__law_size sm fun cdv A outer s H E cl => (DSs.one (DS.ret (DE.call cl (IH i3_law_of (by decide)) (by rfl) M.g__law_of M.F__law_of.kp M.a__law_of (DA.cons (DE.var 0) (DA.cons (DN.dat (DN.lst cl (DA.cons DE.int (DA.cons DE.int (DA.cons DE.int (DA.cons DE.int (DA.cons DE.int (DA.cons DE.int (DA.cons DE.int (DA.cons DE.int (DA.cons DE.int (DA.cons DE.int DA.nil)))))))))))) DA.nil)))))
theorem ok__law_odd (M : Md K mg f fd) (sm : ∃ o, base.get? sysModules = some o) (IH : ∀ i ∈ ids, FnD κ P w K mg base k (f i) (fd i) (psT i) (T i)) : FnD κ P w K mg base (k + 1) (f i8_law_odd) (fd i8_law_odd) ["_law_hand_here"] (fnR 4 1 (m8_law_odd T)) :=
  FnD.of M.F__law_odd sc__law_odd sm fun cdv A outer s H E cl => (DSs.cons (DS.set (i := 1) cl.nd rfl (by first | exact Or.inl rfl | exact Or.inr rfl) (DN.dat (DN.lst cl (DA.cons DE.non (DA.cons DE.bl (DA.cons DE.bl (DA.cons DE.int (DA.cons DE.int (DA.cons (DE.neg DE.int) (DA.cons DE.int (DA.cons (DE.op op_gPow DE.int DE.int) (DA.cons DE.str (DA.cons DE.str (DA.cons DE.str (DA.cons DE.str (DA.cons DE.str (DA.cons DE.str (DA.cons DE.str (DA.cons DE.str DA.nil))))))))))))))))))) (DSs.cons (DS.set (i := 1) cl.nd rfl (by first | exact Or.inl rfl | exact Or.inr rfl) (DN.dat (DN.cat cl (DE.var 1) (DN.dat (DN.lst cl (DA.cons (DE.tup DA.nil) (DA.cons (DN.dat (DN.lst cl DA.nil)) (DA.cons (DE.dic0 cl) (DA.cons (DE.tup (DA.cons DE.str DA.nil)) (DA.cons (DE.tup (DA.cons DE.str DA.nil)) (DA.cons (DE.tup (DA.cons DE.str DA.nil)) (DA.cons (DE.tup (DA.cons DE.str (DA.cons DE.str DA.nil))) (DA.cons (DN.dat (DN.lst cl (DA.cons DE.str (DA.cons DE.str DA.nil)))) (DA.cons (DE.dic (DP.cons DE.str (DE.tup DA.nil) DP.nil)) DA.nil)))))))))))))) (DSs.cons (DS.set (i := 1) cl.nd rfl (by first | exact Or.inl rfl | exact Or.inr rfl) (DN.dat (DN.cat cl (DE.var 1) (DN.dat (DN.lst cl (DA.cons (DE.tup (DA.cons DE.str (DA.cons (DE.tup DA.nil) DA.nil))) (DA.cons (DE.tup (DA.cons (DE.tup DA.nil) DA.nil)) (DA.cons (DE.tup (DA.cons DE.int DA.nil)) DA.nil)))))))) (DSs.cons (DS.set (i := 2) cl.nd rfl (by first | exact Or.inl rfl | exact Or.inr rfl) (DE.call cl (IH i3_law_of (by decide)) (by rfl) M.g__law_of M.F__law_of.kp M.a__law_of (DA.cons (DE.var 0) (DA.cons (DE.var 1) DA.nil)))) (DSs.cons (DS.fr PassesOwn.leaving cl.calm (DI.rng1 (by rfl) M.b_range (DA.cons (DE.call cl (IH i3_law_of (by decide)) (by rfl) M.g__law_of M.F__law_of.kp M.a__law_of (DA.cons (DE.var 0) (DA.cons (DN.dat (DN.lst cl (DA.cons DE.int (DA.cons DE.int (DA.cons DE.int (DA.cons DE.int (DA.cons DE.int (DA.cons DE.int DA.nil)))))))) DA.nil))) DA.nil)) (DG.name (i := 3) cl.nd rfl (by first | exact Or.inl rfl | exact Or.inr rfl)) (DSs.one (DS.set (i := 2) cl.nd rfl (by first | exact Or.inl rfl | exact Or.inr rfl) (DE.call cl (IH i3_law_of (by decide)) (by rfl) M.g__law_of M.F__law_of.kp M.a__law_of (DA.cons (DE.var 0) (DA.cons (DN.dat (DN.lst cl (DA.cons (DE.tup (DA.cons (DE.var 2) DA.nil)) (DA.cons (DN.dat (DN.lst cl (DA.cons (DE.var 2) DA.nil))) (DA.cons (DE.dic (DP.cons DE.str (DE.var 2) DP.nil)) DA.nil))))) DA.nil)))))) (DSs.one (DS.ret (DE.var 2))))))))
theorem ok__law_bent (M : Md K mg f fd) (sm : ∃ o, base.get? sysModules = some o) (IH : ∀ i ∈ ids, FnD κ P w K mg base k (f i) (fd i) (psT i) (T i)) : FnD κ P w K mg base (k + 1) (f i9_law_bent) (fd i9_law_bent) ["_law_hand_here", "_law_thing", "_law_depth"] (fnR 5 3 (m9_law_bent T)) :=
  FnD.of M.F__law_bent sc__law_bent sm fun cdv A outer s H E cl => (DSs.cons (DS.ifs (DW.t (DW.or (DT.not (DT.truth (DE.callB ca_isi (by rfl) M.b_isinstance rfl (DA.cons (DE.var 1) (DA.cons (DE.tyname (by rfl) M.b_tuple rfl) DA.nil))))) (DW.or (DT.cmp (op_gEq cl) (DE.var 1) (DE.tup DA.nil)) (DW.or (DT.cmp (op_gEq cl) (DE.var 2) DE.int) (DW.or1 (DT.cmp (op_gEq cl) (DE.call cl (IH i2_law_take (by decide)) (by rfl) M.g__law_take M.F__law_take.kp M.a__law_take (DA.cons (DE.var 0) (DA.cons DE.int DA.nil))) DE.int)))))) (DSs.cons (DS.ifs (DW.t (DW.or (DT.not (DT.truth (DE.callB ca_isi (by rfl) M.b_isinstance rfl (DA.cons (DE.var 1) (DA.cons (DE.tyname (by rfl) M.b_tuple rfl) DA.nil))))) (DW.or1 (DT.cmp (op_gEq cl) (DE.call cl (IH i2_law_take (by decide)) (by rfl) M.g__law_take M.F__law_take.kp M.a__law_take (DA.cons (DE.var 0) (DA.cons DE.int DA.nil))) DE.int)))) (DSs.one (DS.ret (DE.call cl (IH i8_law_odd (by decide)) (by rfl) M.g__law_odd M.F__law_odd.kp M.a__law_odd (DA.cons (DE.var 0) DA.nil)))) DSs.nil) (DSs.one (DS.ret (DE.call cl (IH i3_law_of (by decide)) (by rfl) M.g__law_of M.F__law_of.kp M.a__law_of (DA.cons (DE.var 0) (DA.cons (DN.dat (DN.lst cl (DA.cons (DN.dat (DN.callTy cl cn_list (by rfl) M.b_list rfl (DA.cons (DE.var 1) DA.nil))) (DA.cons (DE.rev (DE.var 1)) (DA.cons (DE.op op_gAdd (DE.var 1) (DE.sl (DE.var 1) (DO.some (DE.neg DE.int)) DO.none)) (DA.cons (DE.sl (DE.var 1) DO.none (DO.some (DE.neg DE.int))) (DA.cons (DE.tup (DA.cons (DE.var 1) DA.nil)) DA.nil))))))) DA.nil)))))) DSs.nil) (DSs.cons (DS.set (i := 3) cl.nd rfl (by first | exact Or.inl rfl | exact Or.inr rfl) (DE.call cl (IH i2_law_take (by decide)) (by rfl) M.g__law_take M.F__law_take.kp M.a__law_take (DA.cons (DE.var 0) (DA.cons (DE.callB ca_len (by rfl) M.b_len rfl (DA.cons (DE.var 1) DA.nil)) DA.nil)))) (DSs.cons (DS.set (i := 4) cl.nd rfl (by first | exact Or.inl rfl | exact Or.inr rfl) (DE.call cl (IH i2_law_take (by decide)) (by rfl) M.g__law_take M.F__law_take.kp M.a__law_take (DA.cons (DE.var 0) (DA.cons DE.int DA.nil)))) (DSs.cons (DS.ifs (DT.cmp (op_gEq cl) (DE.var 4) DE.int) (DSs.one (DS.ret (DE.op op_gAdd (DE.sl (DE.var 1) DO.none (DO.some (DE.var 3))) (DE.sl (DE.var 1) (DO.some (DE.op op_gAdd (DE.var 3) DE.int)) DO.none)))) DSs.nil) (DSs.cons (DS.ifs (DT.cmp (op_gEq cl) (DE.var 4) DE.int) (DSs.one (DS.ret (DE.op op_gAdd (DE.sl (DE.var 1) DO.none (DO.some (DE.op op_gAdd (DE.var 3) DE.int))) (DE.sl (DE.var 1) (DO.some (DE.var 3)) DO.none)))) DSs.nil) (DSs.one (DS.ret (DE.op op_gAdd (DE.op op_gAdd (DE.sl (DE.var 1) DO.none (DO.some (DE.var 3))) (DE.tup (DA.cons (DE.call cl (IH i9_law_bent (by decide)) (by rfl) M.g__law_bent M.F__law_bent.kp M.a__law_bent (DA.cons (DE.var 0) (DA.cons (DE.ix ix_gIx (DE.var 1) (DE.var 3)) (DA.cons (DE.op op_gSub (DE.var 2) DE.int) DA.nil)))) DA.nil))) (DE.sl (DE.var 1) (DO.some (DE.op op_gAdd (DE.var 3) DE.int)) DO.none)))))))))
theorem ok__law_is_name (M : Md K mg f fd) (sm : ∃ o, base.get? sysModules = some o) (IH : ∀ i ∈ ids, FnD κ P w K mg base k (f i) (fd i) (psT i) (T i)) : FnD κ P w K mg base (k + 1) (f i10_law_is_name) (fd i10_law_is_name) ["_law_thing"] (fnR 2 1 (m10_law_is_name T)) :=
  FnD.of M.F__law_is_name sc__law_is_name sm fun cdv A outer s H E cl => (DSs.cons (DS.ifs (DW.t (DW.or (DT.not (DT.truth (DE.callB ca_isi (by rfl) M.b_isinstance rfl (DA.cons (DE.var 0) (DA.cons (DE.tyname (by rfl) M.b_str rfl) DA.nil))))) (DW.or1 (DT.not (DT.chain op_gLt op_gLt DE.int (DE.callB ca_len (by rfl) M.b_len rfl (DA.cons (DE.var 0) DA.nil)) DE.int))))) (DSs.one (DS.ret DE.bl)) DSs.nil) (DSs.one (DS.ret (DE.callB (ca_all cl) (by rfl) M.b_all rfl (DA.cons (DN.dat (DN.lcc (own := [("_law_sign", 1)]) cl (DI.str (DE.var 0)) (blkOk_by (by rfl)) (fun _ h => h) (fun s H D d fp cl1 => (DG.name (i := 1) cl1.nd rfl (by first | exact Or.inl rfl | exact Or.inr rfl))) (fun s H D d fp cl1 => lc_all) (fun s H D d fp cl1 => (DE.cmp (op_gIn cl1) (DE.var 1) DE.str)))) DA.nil)))))
theorem ok__law_is_one (M : Md K mg f fd) (sm : ∃ o, base.get? sysModules = some o) (IH : ∀ i ∈ ids, FnD κ P w K mg base k (f i) (fd i) (psT i) (T i)) : FnD κ P w K mg base (k + 1) (f i11_law_is_one) (fd i11_law_is_one) ["_law_thing"] (fnR 2 1 (m11_law_is_one T)) :=
  FnD.of M.F__law_is_one sc__law_is_one sm fun cdv A outer s H E cl => (DSs.cons (DS.ifs (DW.t (DW.or (DT.not (DT.truth (DE.callB ca_isi (by rfl) M.b_isinstance rfl (DA.cons (DE.var 0) (DA.cons (DE.tyname (by rfl) M.b_tuple rfl) DA.nil))))) (DW.or (DT.cmp op_gLt (DE.callB ca_len (by rfl) M.b_len rfl (DA.cons (DE.var 0) DA.nil)) DE.int) (DW.or1 (DT.not (DT.truth (DE.callB ca_isi (by rfl) M.b_isinstance rfl (DA.cons (DE.ix ix_gIx (DE.var 0) DE.int) (DA.cons (DE.tyname (by rfl) M.b_str rfl) DA.nil))))))))) (DSs.one (DS.ret DE.bl)) DSs.nil) (DSs.cons (DS.ifs (DT.not (DT.truth (DE.callB (ca_all cl) (by rfl) M.b_all rfl (DA.cons (DN.dat (DN.lcc (own := [("_law_name", 1)]) cl (DI.any (DE.sl (DE.var 0) (DO.some DE.int) DO.none)) (blkOk_by (by rfl)) (fun _ h => h) (fun s H D d fp cl1 => (DG.name (i := 1) cl1.nd rfl (by first | exact Or.inl rfl | exact Or.inr rfl))) (fun s H D d fp cl1 => lc_all) (fun s H D d fp cl1 => (DE.call cl1 (IH i10_law_is_name (by decide)) (by rfl) M.g__law_is_name M.F__law_is_name.kp M.a__law_is_name (DA.cons (DE.var 1) DA.nil))))) DA.nil)))) (DSs.one (DS.ret DE.bl)) DSs.nil) (DSs.one (DS.ret (DE.ifx (DT.cmp (op_gEq cl) (DE.ix ix_gIx (DE.var 0) DE.int) DE.str) (DE.cmp (op_gEq cl) (DE.callB ca_len (by rfl) M.b_len rfl (DA.cons (DE.var 0) DA.nil)) DE.int) (DE.and (DE.cmp (op_gEq cl) (DE.callB ca_len (by rfl) M.b_len rfl (DA.cons (DE.var 0) DA.nil)) DE.int) (DE.one (DE.cmp (op_gIn cl) (DE.ix ix_gIx (DE.var 0) DE.int) (DE.tup (DA.cons DE.str (DA.cons DE.str (DA.cons DE.str DA.nil))))))))))))
theorem ok__law_all_parts (M : Md K mg f fd) (sm : ∃ o, base.get? sysModules = some o) (IH : ∀ i ∈ ids, FnD κ P w K mg base k (f i) (fd i) (psT i) (T i)) : FnD κ P w K mg base (k + 1) (f i12_law_all_parts) (fd i12_law_all_parts) ["_law_thing", "_law_depth"] (fnR 5 2 (m12_law_all_parts T)) :=
  FnD.of M.F__law_all_parts sc__law_all_parts sm fun cdv A outer s H E cl => (DSs.cons (DS.ifs (DT.truth (DE.call cl (IH i11_law_is_one (by decide)) (by rfl) M.g__law_is_one M.F__law_is_one.kp M.a__law_is_one (DA.cons (DE.var 0) DA.nil))) (DSs.one (DS.ret (DN.dat (DN.lst cl (DA.cons (DE.tup (DA.cons (DE.var 0) (DA.cons (DE.var 1) DA.nil))) DA.nil))))) DSs.nil) (DSs.cons (DS.ifs (DW.t (DW.or (DT.not (DT.truth (DE.callB ca_isi (by rfl) M.b_isinstance rfl (DA.cons (DE.var 0) (DA.cons (DE.tyname (by rfl) M.b_tuple rfl) DA.nil))))) (DW.or (DT.cmp (op_gNe cl) (DE.callB ca_len (by rfl) M.b_len rfl (DA.cons (DE.var 0) DA.nil)) DE.int) (DW.or (DT.not (DT.truth (DE.callB ca_isi (by rfl) M.b_isinstance rfl (DA.cons (DE.ix ix_gIx (DE.var 0) DE.int) (DA.cons (DE.tyname (by rfl) M.b_str rfl) DA.nil))))) (DW.or1 (DT.cmp op_gGt (DE.var 1) DE.int)))))) (DSs.one (DS.ret (DN.dat (DN.lst cl (DA.cons (DE.tup (DA.cons DE.non (DA.cons (DE.var 1) DA.nil))) DA.nil))))) DSs.nil) (DSs.cons (DS.ifs (DT.cmp (op_gEq cl) (DE.ix ix_gIx (DE.var 0) DE.int) DE.str) (DSs.one (DS.ret (DN.dat (DN.cat cl (DN.dat (DN.lst cl (DA.cons (DE.tup (DA.cons (DE.var 0) (DA.cons (DE.var 1) DA.nil))) DA.nil))) (DE.call cl (IH i12_law_all_parts (by decide)) (by rfl) M.g__law_all_parts M.F__law_all_parts.kp M.a__law_all_parts (DA.cons (DE.ix ix_gIx (DE.var 0) DE.int) (DA.cons (DE.op op_gAdd (DE.var 1) DE.int) DA.nil))))))) DSs.nil) (DSs.cons (DS.set (i := 2) cl.nd rfl (by first | exact Or.inl rfl | exact Or.inr rfl) (DE.dget2 cl (DD.new (DD.disp (DP.cons DE.str DE.int (DP.cons DE.str DE.int DP.nil)))) (DE.ix ix_gIx (DE.var 0) DE.int) (DE.neg DE.int))) (DSs.cons (DS.ifs (DW.t (DW.or (DT.not (DT.truth (DE.callB ca_isi (by rfl) M.b_isinstance rfl (DA.cons (DE.ix ix_gIx (DE.var 0) DE.int) (DA.cons (DE.tyname (by rfl) M.b_tuple rfl) DA.nil))))) (DW.or (DT.cmp op_gGt (DE.callB ca_len (by rfl) M.b_len rfl (DA.cons (DE.ix ix_gIx (DE.var 0) DE.int) DA.nil)) (DE.var 2)) (DW.or1 (DT.cmp (op_gEq cl) (DE.var 0) (DE.tup (DA.cons DE.str (DA.cons (DE.tup DA.nil) DA.nil)))))))) (DSs.one (DS.ret (DN.dat (DN.lst cl (DA.cons (DE.tup (DA.cons DE.non (DA.cons (DE.var 1) DA.nil))) DA.nil))))) DSs.nil) (DSs.cons (DS.set (i := 3) cl.nd rfl (by first | exact Or.inl rfl | exact Or.inr rfl) (DN.new (DN.lst cl (DA.cons (DE.tup (DA.cons (DE.var 0) (DA.cons (DE.var 1) DA.nil))) DA.nil)))) (DSs.cons (DS.fr PassesOwn.leaving cl.calm (DI.any (DE.ix ix_gIx (DE.var 0) DE.int)) (DG.name (i := 4) cl.nd rfl (by first | exact Or.inl rfl | exact Or.inr rfl)) (DSs.one (DS.expr (DE.ext (DE.var 3) (DE.call cl (IH i12_law_all_parts (by decide)) (by rfl) M.g__law_all_parts M.F__law_all_parts.kp M.a__law_all_parts (DA.cons (DE.var 4) (DA.cons (DE.op op_gAdd (DE.var 1) DE.int) DA.nil))))))) (DSs.one (DS.ret (DE.var 3))))))))))
theorem ok__law_is_program (M : Md K mg f fd) (sm : ∃ o, base.get? sysModules = some o) (IH : ∀ i ∈ ids, FnD κ P w K mg base k (f i) (fd i) (psT i) (T i)) : FnD κ P w K mg base (k + 1) (f i18_law_is_program) (fd i18_law_is_program) ["_law_thing"] (fnR 7 1 (m18_law_is_program T)) :=
  FnD.of M.F__law_is_program sc__law_is_program sm fun cdv A outer s H E cl => (DSs.cons (DS.set (i := 1) cl.nd rfl (by first | exact Or.inl rfl | exact Or.inr rfl) (DE.call cl (IH i12_law_all_parts (by decide)) (by rfl) M.g__law_all_parts M.F__law_all_parts.kp M.a__law_all_parts (DA.cons (DE.var 0) (DA.cons DE.int DA.nil)))) (DSs.cons (DS.ifs (DW.t (DW.or (DT.cmp op_gGt (DE.callB ca_len (by rfl) M.b_len rfl (DA.cons (DE.var 1) DA.nil)) DE.int) (DW.or1 (DT.truth (DE.callB (ca_any cl) (by rfl) M.b_any rfl (DA.cons (DN.dat (DN.lcc (own := [("_law_part", 4), ("_law_depth", 6)]) cl (DI.any (DE.var 1)) (blkOk_by (by rfl)) (fun _ h => h) (fun s H D d fp cl1 => (DG.tup cl1.calm (DGs.cons (DG.name (i := 4) cl1.nd rfl (by first | exact Or.inl rfl | exact Or.inr rfl)) (DGs.cons (DG.name (i := 6) cl1.nd rfl (by first | exact Or.inl rfl | exact Or.inr rfl)) DGs.nil)) (gl1 (gl1 gl0)))) (fun s H D d fp cl1 => lc_all) (fun s H D d fp cl1 => (DE.or (DE.cmp op_gIs (DE.var 4) DE.non) (DE.one (DE.cmp op_gGt (DE.var 6) DE.int)))))) DA.nil)))))) (DSs.one (DS.ret DE.bl)) DSs.nil) (DSs.cons (by first | exact (DS.par2 (i := 2) (j := 3) cl.calm cl.nd rfl rfl (by decide) rfl rfl (DA.cons (DN.dat (DN.lcc (own := [("_law_part", 4), ("_law_depth", 6)]) cl (DI.any (DE.var 1)) (blkOk_by (by rfl)) (fun _ h => h) (fun s H D d fp cl1 => (DG.tup cl1.calm (DGs.cons (DG.name (i := 4) cl1.nd rfl (by first | exact Or.inl rfl | exact Or.inr rfl)) (DGs.cons (DG.name (i := 6) cl1.nd rfl (by first | exact Or.inl rfl | exact Or.inr rfl)) DGs.nil)) (gl1 (gl1 gl0)))) (fun s H D d fp cl1 => (lc_if (DT.truth (DE.call cl1 (IH i11_law_is_one (by decide)) (by rfl) M.g__law_is_one M.F__law_is_one.kp M.a__law_is_one (DA.cons (DE.var 4) DA.nil))))) (fun s H D d fp cl1 => (DE.var 4)))) (DA.cons DE.dnew DA.nil)) rfl) | exact (DS.parG cl.calm (DA.cons (DN.dat (DN.lcc (own := [("_law_part", 4), ("_law_depth", 6)]) cl (DI.any (DE.var 1)) (blkOk_by (by rfl)) (fun _ h => h) (fun s H D d fp cl1 => (DG.tup cl1.calm (DGs.cons (DG.name (i := 4) cl1.nd rfl (by first | exact Or.inl rfl | exact Or.inr rfl)) (DGs.cons (DG.name (i := 6) cl1.nd rfl (by first | exact Or.inl rfl | exact Or.inr rfl)) DGs.nil)) (gl1 (gl1 gl0)))) (fun s H D d fp cl1 => (lc_if (DT.truth (DE.call cl1 (IH i11_law_is_one (by decide)) (by rfl) M.g__law_is_one M.F__law_is_one.kp M.a__law_is_one (DA.cons (DE.var 4) DA.nil))))) (fun s H D d fp cl1 => (DE.var 4)))) (DA.cons DE.dnew DA.nil)) (DGs.cons (DG.name (i := 2) cl.nd rfl (by first | exact Or.inl rfl | exact Or.inr rfl)) (DGs.cons (DG.name (i := 3) cl.nd rfl (by first | exact Or.inl rfl | exact Or.inr rfl)) DGs.nil)) (gl1 (gl1 gl0)))) (DSs.cons (DS.fr PassesOwn.leaving cl.calm (DI.any (DE.var 2)) (DG.name (i := 4) cl.nd rfl (by first | exact Or.inl rfl | exact Or.inr rfl)) (DSs.one (DS.fr PassesOwn.leaving cl.calm (DI.any (DE.sl (DE.var 4) (DO.some DE.int) DO.none)) (DG.name (i := 5) cl.nd rfl (by first | exact Or.inl rfl | exact Or.inr rfl)) (DSs.one (DS.dput cl (DE.var 3) (DE.var 5) DE.bl))))) (DSs.one (DS.ret (DE.and (DE.cmp op_gLe (DE.callB ca_len (by rfl) M.b_len rfl (DA.cons (DE.var 2) DA.nil)) DE.int) (DE.one (DE.cmp op_gLe (DE.callB ca_lenD (by rfl) M.b_len rfl (DA.cons (DE.var 3) DA.nil)) DE.int)))))))))
theorem ok__law_edges (M : Md K mg f fd) (sm : ∃ o, base.get? sysModules = some o) (IH : ∀ i ∈ ids, FnD κ P w K mg base k (f i) (fd i) (psT i) (T i)) : FnD κ P w K mg base (k + 1) (f i16_law_edges) (fd i16_law_edges) ["_law_hand_here"] (fnR 10 1 (m16_law_edges T)) :=
  FnD.of M.F__law_edges sc__law_edges sm fun cdv A outer s H E cl => (DSs.cons (by first | exact (DS.par2 (i := 1) (j := 2) cl.calm cl.nd rfl rfl (by decide) rfl rfl (DA.cons (DE.call cl (IH i3_law_of (by decide)) (by rfl) M.g__law_of M.F__law_of.kp M.a__law_of (DA.cons (DE.var 0) (DA.cons (DN.dat (DN.lst cl (DA.cons (DE.tup (DA.cons DE.str (DA.cons DE.str DA.nil))) (DA.cons (DE.tup (DA.cons DE.str (DA.cons DE.str (DA.cons DE.str DA.nil)))) (DA.cons (DE.tup (DA.cons DE.str (DA.cons DE.str DA.nil))) (DA.cons (DE.tup (DA.cons DE.str (DA.cons DE.str DA.nil))) DA.nil)))))) DA.nil))) (DA.cons (DN.new (DN.lst cl DA.nil)) DA.nil)) rfl) | exact (DS.parG cl.calm (DA.cons (DE.call cl (IH i3_law_of (by decide)) (by rfl) M.g__law_of M.F__law_of.kp M.a__law_of (DA.cons (DE.var 0) (DA.cons (DN.dat (DN.lst cl (DA.cons (DE.tup (DA.cons DE.str (DA.cons DE.str DA.nil))) (DA.cons (DE.tup (DA.cons DE.str (DA.cons DE.str (DA.cons DE.str DA.nil)))) (DA.cons (DE.tup (DA.cons DE.str (DA.cons DE.str DA.nil))) (DA.cons (DE.tup (DA.cons DE.str (DA.cons DE.str DA.nil))) DA.nil)))))) DA.nil))) (DA.cons (DN.new (DN.lst cl DA.nil)) DA.nil)) (DGs.cons (DG.name (i := 1) cl.nd rfl (by first | exact Or.inl rfl | exact Or.inr rfl)) (DGs.cons (DG.name (i := 2) cl.nd rfl (by first | exact Or.inl rfl | exact Or.inr rfl)) DGs.nil)) (gl1 (gl1 gl0)))) (DSs.cons (DS.fr PassesOwn.leaving cl.calm (DI.any (DE.tup (DA.cons DE.int (DA.cons DE.int (DA.cons DE.int (DA.cons DE.int (DA.cons DE.int (DA.cons DE.int DA.nil)))))))) (DG.name (i := 3) cl.nd rfl (by first | exact Or.inl rfl | exact Or.inr rfl)) (DSs.one (DS.expr (DE.ext (DE.var 2) (DN.dat (DN.lst cl (DA.cons (DE.tup (DA.cons DE.str (DA.cons (DE.op op_gMul (DE.tup (DA.cons (DE.var 1) DA.nil)) (DE.var 3)) DA.nil))) (DA.cons (DE.tup (DA.cons DE.str (DA.cons (DE.op op_gMul (DE.tup (DA.cons (DE.var 1) DA.nil)) (DE.var 3)) DA.nil))) (DA.cons (DE.tup (DA.cons DE.str (DA.cons (DE.op op_gMul (DE.tup (DA.cons (DE.tup (DA.cons DE.str (DA.cons (DE.tup DA.nil) DA.nil))) DA.nil)) (DE.var 3)) DA.nil))) DA.nil))))))))) (DSs.cons (DS.fr PassesOwn.leaving cl.calm (DI.any (DE.tup (DA.cons DE.int (DA.cons DE.int (DA.cons DE.int DA.nil))))) (DG.name (i := 3) cl.nd rfl (by first | exact Or.inl rfl | exact Or.inr rfl)) (DSs.cons (DS.set (i := 4) cl.nd rfl (by first | exact Or.inl rfl | exact Or.inr rfl) (DE.op op_gMul (DE.tup (DA.cons (DE.var 1) DA.nil)) (DE.callTy ca_int (by rfl) M.b_int rfl (DA.cons (DE.cmp (op_gEq cl) (DE.var 3) DE.int) DA.nil)))) (DSs.one (DS.expr (DE.app (DE.var 2) (DE.tup (DA.cons DE.str (DA.cons (DE.op op_gAdd (DE.tup (DA.cons (DE.tup (DA.cons DE.str (DA.cons (DE.op op_gMul (DE.tup (DA.cons (DE.var 1) DA.nil)) DE.int) DA.nil))) (DA.cons (DE.tup (DA.cons DE.str (DA.cons (DE.op op_gMul (DE.tup (DA.cons (DE.var 1) DA.nil)) (DE.callB (ca_min cl) (by rfl) M.b_min rfl (DA.cons DE.int (DA.cons (DE.op op_gSub (DE.var 3) DE.int) DA.nil)))) DA.nil))) DA.nil))) (DE.var 4)) DA.nil)))))))) (DSs.cons (DS.fr PassesOwn.leaving cl.calm (DI.any (DE.tup (DA.cons DE.int (DA.cons DE.int (DA.cons DE.int DA.nil))))) (DG.name (i := 3) cl.nd rfl (by first | exact Or.inl rfl | exact Or.inr rfl)) (DSs.cons (DS.set (i := 5) cl.nd rfl (by first | exact Or.inl rfl | exact Or.inr rfl) (DE.tup (DA.cons (DE.tup (DA.cons DE.str (DA.cons (DE.tup DA.nil) DA.nil))) DA.nil))) (DSs.one (DS.expr (DE.app (DE.var 2) (DE.tup (DA.cons DE.str (DA.cons (DE.tup (DA.cons (DE.tup (DA.cons DE.str (DA.cons (DE.op op_gMul (DE.var 5) DE.int) DA.nil))) (DA.cons (DE.tup (DA.cons DE.str (DA.cons (DE.op op_gMul (DE.var 5) DE.int) DA.nil))) (DA.cons (DE.tup (DA.cons DE.str (DA.cons (DE.op op_gMul (DE.var 5) (DE.var 3)) DA.nil))) DA.nil)))) DA.nil)))))))) (DSs.cons (DS.fr PassesOwn.leaving cl.calm (DI.any (DE.tup (DA.cons DE.int (DA.cons DE.int (DA.cons DE.int DA.nil))))) (DG.name (i := 6) cl.nd rfl (by first | exact Or.inl rfl | exact Or.inr rfl)) (DSs.cons (DS.set (i := 7) cl.nd rfl (by first | exact Or.inl rfl | exact Or.inr rfl) (DE.var 1)) (DSs.cons (DS.fr PassesOwn.leaving cl.calm (DI.rng1 (by rfl) M.b_range (DA.cons (DE.op op_gSub (DE.var 6) DE.int) DA.nil)) (DG.name (i := 8) cl.nd rfl (by first | exact Or.inl rfl | exact Or.inr rfl)) (DSs.one (DS.set (i := 7) cl.nd rfl (by first | exact Or.inl rfl | exact Or.inr rfl) (DE.call cl (IH i3_law_of (by decide)) (by rfl) M.g__law_of M.F__law_of.kp M.a__law_of (DA.cons (DE.var 0) (DA.cons (DN.dat (DN.lst cl (DA.cons (DE.tup (DA.cons DE.str (DA.cons (DE.var 7) DA.nil))) (DA.cons (DE.tup (DA.cons DE.str (DA.cons (DE.tup (DA.cons (DE.var 7) DA.nil)) DA.nil))) (DA.cons (DE.tup (DA.cons DE.str (DA.cons (DE.tup (DA.cons (DE.var 7) (DA.cons (DE.var 1) DA.nil))) DA.nil))) (DA.cons (DE.tup (DA.cons DE.str (DA.cons (DE.tup (DA.cons (DE.var 1) (DA.cons (DE.var 7) DA.nil))) DA.nil))) DA.nil)))))) DA.nil)))))) (DSs.one (DS.expr (DE.app (DE.var 2) (DE.var 7))))))) (DSs.cons (DS.fr PassesOwn.leaving cl.calm (DI.any (DE.tup (DA.cons DE.int (DA.cons DE.int (DA.cons DE.int DA.nil))))) (DG.name (i := 3) cl.nd rfl (by first | exact Or.inl rfl | exact Or.inr rfl)) (DSs.one (DS.expr (DE.app (DE.var 2) (DE.tup (DA.cons DE.str (DA.cons (DE.callTy ca_tuple (by rfl) M.b_tuple rfl (DA.cons (DN.dat (DN.lcc (own := [("_law_name", 9)]) cl (DI.str (DE.sl DE.str DO.none (DO.some (DE.var 3)))) (blkOk_by (by rfl)) (fun _ h => h) (fun s H D d fp cl1 => (DG.name (i := 9) cl1.nd rfl (by first | exact Or.inl rfl | exact Or.inr rfl))) (fun s H D d fp cl1 => lc_all) (fun s H D d fp cl1 => (DE.tup (DA.cons DE.str (DA.cons (DE.var 9) (DA.cons DE.str DA.nil))))))) DA.nil)) DA.nil))))))) (DSs.cons (DS.set (i := 2) cl.nd rfl (by first | exact Or.inl rfl | exact Or.inr rfl) (DN.new (DN.cat cl (DE.var 2) (DN.dat (DN.lst cl (DA.cons (DE.tup (DA.cons DE.str (DA.cons (DE.tup (DA.cons DE.str (DA.cons (DE.tup DA.nil) DA.nil))) DA.nil))) (DA.cons (DE.tup (DA.cons DE.str (DA.cons (DE.var 1) (DA.cons (DE.var 1) DA.nil)))) (DA.cons (DE.tup (DA.cons DE.str DA.nil)) (DA.cons (DE.tup (DA.cons DE.str (DA.cons (DE.tup DA.nil) DA.nil))) DA.nil))))))))) (DSs.one (DS.ret (DN.dat (DN.cat cl (DE.var 2) (DN.dat (DN.lst cl (DA.cons (DE.tup (DA.cons DE.str (DA.cons (DN.dat (DN.lst cl (DA.cons (DE.var 1) DA.nil))) DA.nil))) (DA.cons (DE.tup (DA.cons DE.str (DA.cons (DE.var 1) DA.nil))) (DA.cons (DE.tup (DA.cons DE.str (DA.cons (DN.dat (DN.lst cl (DA.cons (DE.var 1) DA.nil))) DA.nil))) DA.nil))))))))))))))))
theorem ok_law (M : Md K mg f fd) (sm : ∃ o, base.get? sysModules = some o) (IH : ∀ i ∈ ids, FnD κ P w K mg base k (f i) (fd i) (psT i) (T i)) : FnD κ P w K mg base (k + 1) (f i422_law) (fd i422_law) ["_law_script"] (fnR 10 1 (m422_law T)) :=
  FnD.of M.F_law sc_law sm fun cdv A outer s H E cl => (DSs.cons (DS.fr PassesOwn.leaving cl.calm (DI.rng1 (by rfl) M.b_range (DA.cons (DE.callB (ca_max cl) (by rfl) M.b_max rfl (DA.cons DE.int (DA.cons (DE.callB (ca_min cl) (by rfl) M.b_min rfl (DA.cons DE.int (DA.cons (DE.callB ca_len (by rfl) M.b_len rfl (DA.cons (DE.var 0) DA.nil)) DA.nil))) DA.nil))) DA.nil)) (DG.name (i := 1) cl.nd rfl (by first | exact Or.inl rfl | exact Or.inr rfl)) (DSs.cons (DS.set (i := 2) cl.nd rfl (by first | exact Or.inl rfl | exact Or.inr rfl) (DE.call cl (IH i13_law_hand (by decide)) (by rfl) M.g__law_hand M.F__law_hand.kp M.a__law_hand (DA.cons (DE.var 0) (DA.cons (DE.var 1) DA.nil)))) (DSs.cons (DS.set (i := 3) cl.nd rfl (by first | exact Or.inl rfl | exact Or.inr rfl) (DN.dat (DN.cat cl (DN.dat (DN.lcc (own := [("_law_turn", 9)]) cl (DI.rng1 (by rfl) M.b_range (DA.cons DE.int DA.nil)) (blkOk_by (by rfl)) (fun _ h => h) (fun s H D d fp cl1 => (DG.name (i := 9) cl1.nd rfl (by first | exact Or.inl rfl | exact Or.inr rfl))) (fun s H D d fp cl1 => lc_all) (fun s H D d fp cl1 => (DE.call cl1 (IH i15_law_program (by decide)) (by rfl) M.g__law_program M.F__law_program.kp M.a__law_program (DA.cons (DE.var 2) (DA.cons (DE.call cl1 (IH i14_law_size (by decide)) (by rfl) M.g__law_size M.F__law_size.kp M.a__law_size (DA.cons (DE.var 2) DA.nil)) DA.nil)))))) (DE.call cl (IH i16_law_edges (by decide)) (by rfl) M.g__law_edges M.F__law_edges.kp M.a__law_edges (DA.cons (DE.var 2) DA.nil))))) (DSs.cons (DS.set (i := 4) cl.nd rfl (by first | exact Or.inl rfl | exact Or.inr rfl) (DN.dat (DN.cat cl (DE.var 3) (DN.dat (DN.lst cl (DA.cons DE.str (DA.cons DE.str (DA.cons DE.str (DA.cons DE.str (DA.cons DE.str (DA.cons DE.str (DA.cons DE.str (DA.cons DE.non (DA.cons (DE.tup DA.nil) (DA.cons (DE.tup (DA.cons DE.str (DA.cons DE.str DA.nil))) (DA.cons (DE.tup (DA.cons DE.str (DA.cons DE.str DA.nil))) DA.nil)))))))))))))))) (DSs.cons (DS.set (i := 4) cl.nd rfl (by first | exact Or.inl rfl | exact Or.inr rfl) (DN.dat (DN.cat cl (DE.var 4) (DN.dat (DN.lst cl (DA.cons (DE.tup (DA.cons DE.str DA.nil)) (DA.cons (DE.tup (DA.cons DE.str (DA.cons DE.str (DA.cons DE.str DA.nil)))) (DA.cons (DE.tup (DA.cons DE.str (DA.cons DE.str (DA.cons DE.str (DA.cons DE.str DA.nil))))) (DA.cons (DE.tup (DA.cons DE.str (DA.cons DE.str DA.nil))) (DA.cons (DE.tup (DA.cons DE.str (DA.cons DE.str DA.nil))) DA.nil)))))))))) (DSs.cons (DS.set (i := 4) cl.nd rfl (by first | exact Or.inl rfl | exact Or.inr rfl) (DN.dat (DN.cat cl (DE.var 4) (DN.dat (DN.lst cl (DA.cons (DN.dat (DN.lst cl (DA.cons DE.str (DA.cons DE.str DA.nil)))) (DA.cons (DE.tup (DA.cons DE.non (DA.cons DE.str DA.nil))) DA.nil))))))) (DSs.cons (DS.set (i := 4) cl.nd rfl (by first | exact Or.inl rfl | exact Or.inr rfl) (DN.dat (DN.cat cl (DE.var 4) (DN.dat (DN.lcc (own := [("_law_turn", 9)]) cl (DI.rng1 (by rfl) M.b_range (DA.cons DE.int DA.nil)) (blkOk_by (by rfl)) (fun _ h => h) (fun s H D d fp cl1 => (DG.name (i := 9) cl1.nd rfl (by first | exact Or.inl rfl | exact Or.inr rfl))) (fun s H D d fp cl1 => lc_all) (fun s H D d fp cl1 => (DE.call cl1 (IH i9_law_bent (by decide)) (by rfl) M.g__law_bent M.F__law_bent.kp M.a__law_bent (DA.cons (DE.var 2) (DA.cons (DE.call cl1 (IH i3_law_of (by decide)) (by rfl) M.g__law_of M.F__law_of.kp M.a__law_of (DA.cons (DE.var 2) (DA.cons (DE.var 3) DA.nil))) (DA.cons DE.int DA.nil)))))))))) (DSs.one (DS.fr PassesOwn.leaving cl.calm (DI.any (DN.dat (DN.cat cl (DE.var 4) (DN.dat (DN.lcc (own := [("_law_turn", 9)]) cl (DI.rng1 (by rfl) M.b_range (DA.cons DE.int DA.nil)) (blkOk_by (by rfl)) (fun _ h => h) (fun s H D d fp cl1 => (DG.name (i := 9) cl1.nd rfl (by first | exact Or.inl rfl | exact Or.inr rfl))) (fun s H D d fp cl1 => lc_all) (fun s H D d fp cl1 => (DE.call cl1 (IH i8_law_odd (by decide)) (by rfl) M.g__law_odd M.F__law_odd.kp M.a__law_odd (DA.cons (DE.var 2) DA.nil)))))))) (DG.name (i := 5) cl.nd rfl (by first | exact Or.inl rfl | exact Or.inr rfl)) (DSs.cons (DS.set (i := 6) cl.nd rfl (by first | exact Or.inl rfl | exact Or.inr rfl) (DE.callB (ca_repr cl) (by rfl) M.b_repr rfl (DA.cons (DE.var 5) DA.nil))) (DSs.cons (by first | exact (DS.par2 (i := 7) (j := 8) cl.calm cl.nd rfl rfl (by decide) rfl rfl (DA.cons (DN.dat (DN.lst cl (DA.cons (DE.call cl (IH i1_is_name (by decide)) (by rfl) M.g_is_name M.F_is_name.kp M.a_is_name (DA.cons (DE.var 5) DA.nil)) (DA.cons (DE.call cl (IH i17_is_program (by decide)) (by rfl) M.g_is_program M.F_is_program.kp M.a_is_program (DA.cons (DE.var 5) DA.nil)) DA.nil)))) (DA.cons (DN.dat (DN.lst cl (DA.cons (DE.call cl (IH i10_law_is_name (by decide)) (by rfl) M.g__law_is_name M.F__law_is_name.kp M.a__law_is_name (DA.cons (DE.var 5) DA.nil)) (DA.cons (DE.call cl (IH i18_law_is_program (by decide)) (by rfl) M.g__law_is_program M.F__law_is_program.kp M.a__law_is_program (DA.cons (DE.var 5) DA.nil)) DA.nil)))) DA.nil)) rfl) | exact (DS.parG cl.calm (DA.cons (DN.dat (DN.lst cl (DA.cons (DE.call cl (IH i1_is_name (by decide)) (by rfl) M.g_is_name M.F_is_name.kp M.a_is_name (DA.cons (DE.var 5) DA.nil)) (DA.cons (DE.call cl (IH i17_is_program (by decide)) (by rfl) M.g_is_program M.F_is_program.kp M.a_is_program (DA.cons (DE.var 5) DA.nil)) DA.nil)))) (DA.cons (DN.dat (DN.lst cl (DA.cons (DE.call cl (IH i10_law_is_name (by decide)) (by rfl) M.g__law_is_name M.F__law_is_name.kp M.a__law_is_name (DA.cons (DE.var 5) DA.nil)) (DA.cons (DE.call cl (IH i18_law_is_program (by decide)) (by rfl) M.g__law_is_program M.F__law_is_program.kp M.a__law_is_program (DA.cons (DE.var 5) DA.nil)) DA.nil)))) DA.nil)) (DGs.cons (DG.name (i := 7) cl.nd rfl (by first | exact Or.inl rfl | exact Or.inr rfl)) (DGs.cons (DG.name (i := 8) cl.nd rfl (by first | exact Or.inl rfl | exact Or.inr rfl)) DGs.nil)) (gl1 (gl1 gl0)))) (DSs.one (DS.ifs (DW.t (DW.or (DT.cmp (op_gNe cl) (DE.callB (ca_repr cl) (by rfl) M.b_repr rfl (DA.cons (DE.var 7) DA.nil)) (DE.callB (ca_repr cl) (by rfl) M.b_repr rfl (DA.cons (DE.var 8) DA.nil))) (DW.or1 (DT.cmp (op_gNe cl) (DE.callB (ca_repr cl) (by rfl) M.b_repr rfl (DA.cons (DE.var 5) DA.nil)) (DE.var 6))))) (DSs.one (DS.ret DE.bl)) DSs.nil))))))))))))) (DSs.one (DS.ret DE.bl)))
end
theorem all_ok {κ : Nat → Addr} {P : Program} {w : World} {K : PySem.W.Frag} {mg : Str → Option Value} {base : Heap} {f : Nat → Addr} {fd : Nat → FuncData} (M : Md K mg f fd) (sm : ∃ o, base.get? sysModules = some o) : ∀ (k i : Nat), i ∈ ids → FnD κ P w K mg base k (f i) (fd i) (psT i) (T k i)
  | 0, i, _ => FnD.bad
  | k + 1, i, hi => by
    have IH := all_ok (κ := κ) (P := P) (w := w) (base := base) M sm k
    revert i
    exact List.forall_mem_cons.mpr ⟨ok_is_name M sm IH, List.forall_mem_cons.mpr ⟨ok_is_instruction M sm IH, List.forall_mem_cons.mpr ⟨ok_is_composed M sm IH, List.forall_mem_cons.mpr ⟨ok_parts_of M sm IH, List.forall_mem_cons.mpr ⟨ok_is_program M sm IH, List.forall_mem_cons.mpr ⟨ok_words_of M sm IH, List.forall_mem_cons.mpr ⟨ok__law_hand M sm IH, List.forall_mem_cons.mpr ⟨ok__law_take M sm IH, List.forall_mem_cons.mpr ⟨ok__law_of M sm IH, List.forall_mem_cons.mpr ⟨ok__law_names M sm IH, List.forall_mem_cons.mpr ⟨ok__law_instruction M sm IH, List.forall_mem_cons.mpr ⟨ok__law_tree M sm IH, List.forall_mem_cons.mpr ⟨ok__law_nodes M sm IH, List.forall_mem_cons.mpr ⟨ok__law_program M sm IH, List.forall_mem_cons.mpr ⟨ok__law_size M sm IH, List.forall_mem_cons.mpr ⟨ok__law_odd M sm IH, List.forall_mem_cons.mpr ⟨ok__law_bent M sm IH, List.forall_mem_cons.mpr ⟨ok__law_is_name M sm IH, List.forall_mem_cons.mpr ⟨ok__law_is_one M sm IH, List.forall_mem_cons.mpr ⟨ok__law_all_parts M sm IH, List.forall_mem_cons.mpr ⟨ok__law_is_program M sm IH, List.forall_mem_cons.mpr ⟨ok__law_edges M sm IH, List.forall_mem_cons.mpr ⟨ok_law M sm IH, fun _ h => nomatch h⟩⟩⟩⟩⟩⟩⟩⟩⟩⟩⟩⟩⟩⟩⟩⟩⟩⟩⟩⟩⟩⟩⟩
theorem all_mk {w : World} {K : PySem.W.Frag} {h : Heap} {mg : Str → Option Value} {fa : Addr} (X : K.In h) (G : h.Ns mainGlobals mg) (hfa : mg "law" = some (.ref fa)) {P : Program}
    (LT : ∀ ns : List Int, ns.length ≤ 63 → (∀ i ∈ ns, Builtin.Int.intBits i ≤ 1048576) → ∃ μ, T 60 i422_law [.scr ns] [] = .ok (.bl true) μ)
    {f0 : Addr} {od0 an0 : Option Addr} {sl0 : Array (Option Value)} {oc0 kV0 dc0 pm0 cd0 ct0 : Value}
    {f1 : Addr} {od1 an1 : Option Addr} {sl1 : Array (Option Value)} {oc1 kV1 dc1 pm1 cd1 ct1 : Value}
    {f2 : Addr} {od2 an2 : Option Addr} {sl2 : Array (Option Value)} {oc2 kV2 dc2 pm2 cd2 ct2 : Value}
    {f3 : Addr} {od3 an3 : Option Addr} {sl3 : Array (Option Value)} {oc3 kV3 dc3 pm3 cd3 ct3 : Value}
    {f4 : Addr} {od4 an4 : Option Addr} {sl4 : Array (Option Value)} {oc4 kV4 dc4 pm4 cd4 ct4 : Value}
    {f5 : Addr} {od5 an5 : Option Addr} {sl5 : Array (Option Value)} {oc5 kV5 dc5 pm5 cd5 ct5 : Value}
    {f6 : Addr} {od6 an6 : Option Addr} {sl6 : Array (Option Value)} {oc6 kV6 dc6 pm6 cd6 ct6 : Value}
    {f7 : Addr} {od7 an7 : Option Addr} {sl7 : Array (Option Value)} {oc7 kV7 dc7 pm7 cd7 ct7 : Value}
    {f8 : Addr} {od8 an8 : Option Addr} {sl8 : Array (Option Value)} {oc8 kV8 dc8 pm8 cd8 ct8 : Value}
    {f9 : Addr} {od9 an9 : Option Addr} {sl9 : Array (Option Value)} {oc9 kV9 dc9 pm9 cd9 ct9 : Value}
    {f10 : Addr} {od10 an10 : Option Addr} {sl10 : Array (Option Value)} {oc10 kV10 dc10 pm10 cd10 ct10 : Value}
    {f11 : Addr} {od11 an11 : Option Addr} {sl11 : Array (Option Value)} {oc11 kV11 dc11 pm11 cd11 ct11 : Value}
    {f12 : Addr} {od12 an12 : Option Addr} {sl12 : Array (Option Value)} {oc12 kV12 dc12 pm12 cd12 ct12 : Value}
    {f13 : Addr} {od13 an13 : Option Addr} {sl13 : Array (Option Value)} {oc13 kV13 dc13 pm13 cd13 ct13 : Value}
    {f14 : Addr} {od14 an14 : Option Addr} {sl14 : Array (Option Value)} {oc14 kV14 dc14 pm14 cd14 ct14 : Value}
    {f15 : Addr} {od15 an15 : Option Addr} {sl15 : Array (Option Value)} {oc15 kV15 dc15 pm15 cd15 ct15 : Value}
    {f16 : Addr} {od16 an16 : Option Addr} {sl16 : Array (Option Value)} {oc16 kV16 dc16 pm16 cd16 ct16 : Value}
    {f17 : Addr} {od17 an17 : Option Addr} {sl17 : Array (Option Value)} {oc17 kV17 dc17 pm17 cd17 ct17 : Value}
    {f18 : Addr} {od18 an18 : Option Addr} {sl18 : Array (Option Value)} {oc18 kV18 dc18 pm18 cd18 ct18 : Value}
    {f19 : Addr} {od19 an19 : Option Addr} {sl19 : Array (Option Value)} {oc19 kV19 dc19 pm19 cd19 ct19 : Value}
    {f20 : Addr} {od20 an20 : Option Addr} {sl20 : Array (Option Value)} {oc20 kV20 dc20 pm20 cd20 ct20 : Value}
    {f21 : Addr} {od21 an21 : Option Addr} {sl21 : Array (Option Value)} {oc21 kV21 dc21 pm21 cd21 ct21 : Value}
    {f22 : Addr} {od22 an22 : Option Addr} {sl22 : Array (Option Value)} {oc22 kV22 dc22 pm22 cd22 ct22 : Value}
    (a0 : PySem.W.nsIn K mainGlobals "is_name" = some (some (.ref f0))) (l0 : K.lookup f0 = some ⟨oc0, od0, .func (PySem.W.fnOf "is_name" "is_name" (defArgs s_is_name) (defBody s_is_name) (defScope s_is_name) .none kV0 dc0 pm0 an0 cd0 ct0), sl0⟩) (d0 : PySem.W.codeIn K cd0 "is_name" = true) (k0 : PySem.W.keepIn K (.ref f0) = true)
    (a1 : PySem.W.nsIn K mainGlobals "is_instruction" = some (some (.ref f1))) (l1 : K.lookup f1 = some ⟨oc1, od1, .func (PySem.W.fnOf "is_instruction" "is_instruction" (defArgs s_is_instruction) (defBody s_is_instruction) (defScope s_is_instruction) .none kV1 dc1 pm1 an1 cd1 ct1), sl1⟩) (d1 : PySem.W.codeIn K cd1 "is_instruction" = true) (k1 : PySem.W.keepIn K (.ref f1) = true)
    (a2 : PySem.W.nsIn K mainGlobals "is_composed" = some (some (.ref f2))) (l2 : K.lookup f2 = some ⟨oc2, od2, .func (PySem.W.fnOf "is_composed" "is_composed" (defArgs s_is_composed) (defBody s_is_composed) (defScope s_is_composed) .none kV2 dc2 pm2 an2 cd2 ct2), sl2⟩) (d2 : PySem.W.codeIn K cd2 "is_composed" = true) (k2 : PySem.W.keepIn K (.ref f2) = true)
    (a3 : PySem.W.nsIn K mainGlobals "parts_of" = some (some (.ref f3))) (l3 : K.lookup f3 = some ⟨oc3, od3, .func (PySem.W.fnOf "parts_of" "parts_of" (defArgs s_parts_of) (defBody s_parts_of) (defScope s_parts_of) .none kV3 dc3 pm3 an3 cd3 ct3), sl3⟩) (d3 : PySem.W.codeIn K cd3 "parts_of" = true) (k3 : PySem.W.keepIn K (.ref f3) = true)
    (a4 : PySem.W.nsIn K mainGlobals "is_program" = some (some (.ref f4))) (l4 : K.lookup f4 = some ⟨oc4, od4, .func (PySem.W.fnOf "is_program" "is_program" (defArgs s_is_program) (defBody s_is_program) (defScope s_is_program) .none kV4 dc4 pm4 an4 cd4 ct4), sl4⟩) (d4 : PySem.W.codeIn K cd4 "is_program" = true) (k4 : PySem.W.keepIn K (.ref f4) = true)
    (a5 : PySem.W.nsIn K mainGlobals "words_of" = some (some (.ref f5))) (l5 : K.lookup f5 = some ⟨oc5, od5, .func (PySem.W.fnOf "words_of" "words_of" (defArgs s_words_of) (defBody s_words_of) (defScope s_words_of) .none kV5 dc5 pm5 an5 cd5 ct5), sl5⟩) (d5 : PySem.W.codeIn K cd5 "words_of" = true) (k5 : PySem.W.keepIn K (.ref f5) = true)
    (a6 : PySem.W.nsIn K mainGlobals "_law_hand" = some (some (.ref f6))) (l6 : K.lookup f6 = some ⟨oc6, od6, .func (PySem.W.fnOf "_law_hand" "_law_hand" (defArgs s__law_hand) (defBody s__law_hand) (defScope s__law_hand) .none kV6 dc6 pm6 an6 cd6 ct6), sl6⟩) (d6 : PySem.W.codeIn K cd6 "_law_hand" = true) (k6 : PySem.W.keepIn K (.ref f6) = true)
    (a7 : PySem.W.nsIn K mainGlobals "_law_take" = some (some (.ref f7))) (l7 : K.lookup f7 = some ⟨oc7, od7, .func (PySem.W.fnOf "_law_take" "_law_take" (defArgs s__law_take) (defBody s__law_take) (defScope s__law_take) .none kV7 dc7 pm7 an7 cd7 ct7), sl7⟩) (d7 : PySem.W.codeIn K cd7 "_law_take" = true) (k7 : PySem.W.keepIn K (.ref f7) = true)
    (a8 : PySem.W.nsIn K mainGlobals "_law_of" = some (some (.ref f8))) (l8 : K.lookup f8 = some ⟨oc8, od8, .func (PySem.W.fnOf "_law_of" "_law_of" (defArgs s__law_of) (defBody s__law_of) (defScope s__law_of) .none kV8 dc8 pm8 an8 cd8 ct8), sl8⟩) (d8 : PySem.W.codeIn K cd8 "_law_of" = true) (k8 : PySem.W.keepIn K (.ref f8) = true)
    (a9 : PySem.W.nsIn K mainGlobals "_law_names" = some (some (.ref f9))) (l9 : K.lookup f9 = some ⟨oc9, od9, .func (PySem.W.fnOf "_law_names" "_law_names" (defArgs s__law_names) (defBody s__law_names) (defScope s__law_names) .none kV9 dc9 pm9 an9 cd9 ct9), sl9⟩) (d9 : PySem.W.codeIn K cd9 "_law_names" = true) (k9 : PySem.W.keepIn K (.ref f9) = true)
    (a10 : PySem.W.nsIn K mainGlobals "_law_instruction" = some (some (.ref f10))) (l10 : K.lookup f10 = some ⟨oc10, od10, .func (PySem.W.fnOf "_law_instruction" "_law_instruction" (defArgs s__law_instruction) (defBody s__law_instruction) (defScope s__law_instruction) .none kV10 dc10 pm10 an10 cd10 ct10), sl10⟩) (d10 : PySem.W.codeIn K cd10 "_law_instruction" = true) (k10 : PySem.W.keepIn K (.ref f10) = true)
    (a11 : PySem.W.nsIn K mainGlobals "_law_tree" = some (some (.ref f11))) (l11 : K.lookup f11 = some ⟨oc11, od11, .func (PySem.W.fnOf "_law_tree" "_law_tree" (defArgs s__law_tree) (defBody s__law_tree) (defScope s__law_tree) .none kV11 dc11 pm11 an11 cd11 ct11), sl11⟩) (d11 : PySem.W.codeIn K cd11 "_law_tree" = true) (k11 : PySem.W.keepIn K (.ref f11) = true)
    (a12 : PySem.W.nsIn K mainGlobals "_law_nodes" = some (some (.ref f12))) (l12 : K.lookup f12 = some ⟨oc12, od12, .func (PySem.W.fnOf "_law_nodes" "_law_nodes" (defArgs s__law_nodes) (defBody s__law_nodes) (defScope s__law_nodes) .none kV12 dc12 pm12 an12 cd12 ct12), sl12⟩) (d12 : PySem.W.codeIn K cd12 "_law_nodes" = true) (k12 : PySem.W.keepIn K (.ref f12) = true)
    (a13 : PySem.W.nsIn K mainGlobals "_law_program" = some (some (.ref f13))) (l13 : K.lookup f13 = some ⟨oc13, od13, .func (PySem.W.fnOf "_law_program" "_law_program" (defArgs s__law_program) (defBody s__law_program) (defScope s__law_program) .none kV13 dc13 pm13 an13 cd13 ct13), sl13⟩) (d13 : PySem.W.codeIn K cd13 "_law_program" = true) (k13 : PySem.W.keepIn K (.ref f13) = true)
    (a14 : PySem.W.nsIn K mainGlobals "_law_size" = some (some (.ref f14))) (l14 : K.lookup f14 = some ⟨oc14, od14, .func (PySem.W.fnOf "_law_size" "_law_size" (defArgs s__law_size) (defBody s__law_size) (defScope s__law_size) .none kV14 dc14 pm14 an14 cd14 ct14), sl14⟩) (d14 : PySem.W.codeIn K cd14 "_law_size" = true) (k14 : PySem.W.keepIn K (.ref f14) = true)
    (a15 : PySem.W.nsIn K mainGlobals "_law_odd" = some (some (.ref f15))) (l15 : K.lookup f15 = some ⟨oc15, od15, .func (PySem.W.fnOf "_law_odd" "_law_odd" (defArgs s__law_odd) (defBody s__law_odd) (defScope s__law_odd) .none kV15 dc15 pm15 an15 cd15 ct15), sl15⟩) (d15 : PySem.W.codeIn K cd15 "_law_odd" = true) (k15 : PySem.W.keepIn K (.ref f15) = true)
    (a16 : PySem.W.nsIn K mainGlobals "_law_bent" = some (some (.ref f16))) (l16 : K.lookup f16 = some ⟨oc16, od16, .func (PySem.W.fnOf "_law_bent" "_law_bent" (defArgs s__law_bent) (defBody s__law_bent) (defScope s__law_bent) .none kV16 dc16 pm16 an16 cd16 ct16), sl16⟩) (d16 : PySem.W.codeIn K cd16 "_law_bent" = true) (k16 : PySem.W.keepIn K (.ref f16) = true)
    (a17 : PySem.W.nsIn K mainGlobals "_law_is_name" = some (some (.ref f17))) (l17 : K.lookup f17 = some ⟨oc17, od17, .func (PySem.W.fnOf "_law_is_name" "_law_is_name" (defArgs s__law_is_name) (defBody s__law_is_name) (defScope s__law_is_name) .none kV17 dc17 pm17 an17 cd17 ct17), sl17⟩) (d17 : PySem.W.codeIn K cd17 "_law_is_name" = true) (k17 : PySem.W.keepIn K (.ref f17) = true)
    (a18 : PySem.W.nsIn K mainGlobals "_law_is_one" = some (some (.ref f18))) (l18 : K.lookup f18 = some ⟨oc18, od18, .func (PySem.W.fnOf "_law_is_one" "_law_is_one" (defArgs s__law_is_one) (defBody s__law_is_one) (defScope s__law_is_one) .none kV18 dc18 pm18 an18 cd18 ct18), sl18⟩) (d18 : PySem.W.codeIn K cd18 "_law_is_one" = true) (k18 : PySem.W.keepIn K (.ref f18) = true)
    (a19 : PySem.W.nsIn K mainGlobals "_law_all_parts" = some (some (.ref f19))) (l19 : K.lookup f19 = some ⟨oc19, od19, .func (PySem.W.fnOf "_law_all_parts" "_law_all_parts" (defArgs s__law_all_parts) (defBody s__law_all_parts) (defScope s__law_all_parts) .none kV19 dc19 pm19 an19 cd19 ct19), sl19⟩) (d19 : PySem.W.codeIn K cd19 "_law_all_parts" = true) (k19 : PySem.W.keepIn K (.ref f19) = true)
    (a20 : PySem.W.nsIn K mainGlobals "_law_is_program" = some (some (.ref f20))) (l20 : K.lookup f20 = some ⟨oc20, od20, .func (PySem.W.fnOf "_law_is_program" "_law_is_program" (defArgs s__law_is_program) (defBody s__law_is_program) (defScope s__law_is_program) .none kV20 dc20 pm20 an20 cd20 ct20), sl20⟩) (d20 : PySem.W.codeIn K cd20 "_law_is_program" = true) (k20 : PySem.W.keepIn K (.ref f20) = true)
    (a21 : PySem.W.nsIn K mainGlobals "_law_edges" = some (some (.ref f21))) (l21 : K.lookup f21 = some ⟨oc21, od21, .func (PySem.W.fnOf "_law_edges" "_law_edges" (defArgs s__law_edges) (defBody s__law_edges) (defScope s__law_edges) .none kV21 dc21 pm21 an21 cd21 ct21), sl21⟩) (d21 : PySem.W.codeIn K cd21 "_law_edges" = true) (k21 : PySem.W.keepIn K (.ref f21) = true)
    (a22 : PySem.W.nsIn K mainGlobals "law" = some (some (.ref f22))) (l22 : K.lookup f22 = some ⟨oc22, od22, .func (PySem.W.fnOf "law" "law" (defArgs s_law) (defBody s_law) (defScope s_law) .none kV22 dc22 pm22 an22 cd22 ct22), sl22⟩) (d22 : PySem.W.codeIn K cd22 "law" = true) (k22 : PySem.W.keepIn K (.ref f22) = true)
    {t_MOST_LETTERS : Tok} (c_MOST_LETTERS : PySem.W.nsIn K mainGlobals "MOST_LETTERS" = some (some (.int 8 t_MOST_LETTERS)))
    {t_LETTERS : Tok} (c_LETTERS : PySem.W.nsIn K mainGlobals "LETTERS" = some (some (.str "abcdefghijklmnopqrstuvwxyz" t_LETTERS)))
    {t_NEW : Tok} (c_NEW : PySem.W.nsIn K mainGlobals "NEW" = some (some (.str "new" t_NEW)))
    {t_COPY : Tok} (c_COPY : PySem.W.nsIn K mainGlobals "COPY" = some (some (.str "copy" t_COPY)))
    {t_USE : Tok} (c_USE : PySem.W.nsIn K mainGlobals "USE" = some (some (.str "use" t_USE)))
    {t_DROP : Tok} (c_DROP : PySem.W.nsIn K mainGlobals "DROP" = some (some (.str "drop" t_DROP)))
    {t_COPY_PARTS : Tok} (c_COPY_PARTS : PySem.W.nsIn K mainGlobals "COPY_PARTS" = some (some (.int 3 t_COPY_PARTS)))
    {t_PAIR : Tok} (c_PAIR : PySem.W.nsIn K mainGlobals "PAIR" = some (some (.int 2 t_PAIR)))
    {t_LOOP : Tok} (c_LOOP : PySem.W.nsIn K mainGlobals "LOOP" = some (some (.str "loop" t_LOOP)))
    {t_SEQ : Tok} (c_SEQ : PySem.W.nsIn K mainGlobals "SEQ" = some (some (.str "seq" t_SEQ)))
    {t_MOST_PARTS : Tok} (c_MOST_PARTS : PySem.W.nsIn K mainGlobals "MOST_PARTS" = some (some (.int 20 t_MOST_PARTS)))
    {t_BRANCH : Tok} (c_BRANCH : PySem.W.nsIn K mainGlobals "BRANCH" = some (some (.str "branch" t_BRANCH)))
    {t_MOST_BRANCHES : Tok} (c_MOST_BRANCHES : PySem.W.nsIn K mainGlobals "MOST_BRANCHES" = some (some (.int 6 t_MOST_BRANCHES)))
    {t_MOST_PROGRAMS : Tok} (c_MOST_PROGRAMS : PySem.W.nsIn K mainGlobals "MOST_PROGRAMS" = some (some (.int 60 t_MOST_PROGRAMS)))
    {t_MOST_DEPTH : Tok} (c_MOST_DEPTH : PySem.W.nsIn K mainGlobals "MOST_DEPTH" = some (some (.int 8 t_MOST_DEPTH)))
    {t_MOST_INSTRUCTIONS : Tok} (c_MOST_INSTRUCTIONS : PySem.W.nsIn K mainGlobals "MOST_INSTRUCTIONS" = some (some (.int 40 t_MOST_INSTRUCTIONS)))
    {t_MOST_NAMES : Tok} (c_MOST_NAMES : PySem.W.nsIn K mainGlobals "MOST_NAMES" = some (some (.int 8 t_MOST_NAMES)))
    (z_isinstance : PySem.W.nsIn K mainGlobals "isinstance" = some none)
    (z_str : PySem.W.nsIn K mainGlobals "str" = some none)
    (z_len : PySem.W.nsIn K mainGlobals "len" = some none)
    (z_all : PySem.W.nsIn K mainGlobals "all" = some none)
    (z_tuple : PySem.W.nsIn K mainGlobals "tuple" = some none)
    (z_sorted : PySem.W.nsIn K mainGlobals "sorted" = some none)
    (z_abs : PySem.W.nsIn K mainGlobals "abs" = some none)
    (z_int : PySem.W.nsIn K mainGlobals "int" = some none)
    (z_min : PySem.W.nsIn K mainGlobals "min" = some none)
    (z_range : PySem.W.nsIn K mainGlobals "range" = some none)
    (z_sum : PySem.W.nsIn K mainGlobals "sum" = some none)
    (z_max : PySem.W.nsIn K mainGlobals "max" = some none)
    (z_list : PySem.W.nsIn K mainGlobals "list" = some none)
    (z_any : PySem.W.nsIn K mainGlobals "any" = some none)
    (z_repr : PySem.W.nsIn K mainGlobals "repr" = some none)
    : ∃ (fd : FuncData) (κ : Nat → Addr) (r : Fn), (∀ (s : Shared) (u : Value), BindsTo s fd ⟨[u], []⟩ [("_law_script", u)]) ∧ (∀ ns : List Int, ns.length ≤ 63 → (∀ i ∈ ns, Builtin.Int.intBits i ≤ 1048576) → ∃ μ, r [.scr ns] [] = .ok (.bl true) μ) ∧
      ∀ base : Heap, K.In base → base.Ns mainGlobals mg → (∃ o, base.get? sysModules = some o) → FnD κ P w K mg base 60 fa fd ["_law_script"] r := by
  have e := hfa.symm.trans (PySem.W.mg_of X G a22)
  cases e
  have F0 := fun_mk (st := s_is_name) l0 d0 k0
  have F1 := fun_mk (st := s_is_instruction) l1 d1 k1
  have F2 := fun_mk (st := s_is_composed) l2 d2 k2
  have F3 := fun_mk (st := s_parts_of) l3 d3 k3
  have F4 := fun_mk (st := s_is_program) l4 d4 k4
  have F5 := fun_mk (st := s_words_of) l5 d5 k5
  have F6 := fun_mk (st := s__law_hand) l6 d6 k6
  have F7 := fun_mk (st := s__law_take) l7 d7 k7
  have F8 := fun_mk (st := s__law_of) l8 d8 k8
  have F9 := fun_mk (st := s__law_names) l9 d9 k9
  have F10 := fun_mk (st := s__law_instruction) l10 d10 k10
  have F11 := fun_mk (st := s__law_tree) l11 d11 k11
  have F12 := fun_mk (st := s__law_nodes) l12 d12 k12
  have F13 := fun_mk (st := s__law_program) l13 d13 k13
  have F14 := fun_mk (st := s__law_size) l14 d14 k14
  have F15 := fun_mk (st := s__law_odd) l15 d15 k15
  have F16 := fun_mk (st := s__law_bent) l16 d16 k16
  have F17 := fun_mk (st := s__law_is_name) l17 d17 k17
  have F18 := fun_mk (st := s__law_is_one) l18 d18 k18
  have F19 := fun_mk (st := s__law_all_parts) l19 d19 k19
  have F20 := fun_mk (st := s__law_is_program) l20 d20 k20
  have F21 := fun_mk (st := s__law_edges) l21 d21 k21
  have F22 := fun_mk (st := s_law) l22 d22 k22
  have M : Md K mg (fun i => match i with | 1 => f0 | 420 => f1 | 421 => f2 | 19 => f3 | 17 => f4 | 21 => f5 | 13 => f6 | 2 => f7 | 3 => f8 | 7 => f9 | 4 => f10 | 5 => f11 | 6 => f12 | 15 => f13 | 14 => f14 | 8 => f15 | 9 => f16 | 10 => f17 | 11 => f18 | 12 => f19 | 18 => f20 | 16 => f21 | 422 => fa | _ => fa) (fun i => match i with | 1 => PySem.W.fnOf "is_name" "is_name" (defArgs s_is_name) (defBody s_is_name) (defScope s_is_name) .none kV0 dc0 pm0 an0 cd0 ct0 | 420 => PySem.W.fnOf "is_instruction" "is_instruction" (defArgs s_is_instruction) (defBody s_is_instruction) (defScope s_is_instruction) .none kV1 dc1 pm1 an1 cd1 ct1 | 421 => PySem.W.fnOf "is_composed" "is_composed" (defArgs s_is_composed) (defBody s_is_composed) (defScope s_is_composed) .none kV2 dc2 pm2 an2 cd2 ct2 | 19 => PySem.W.fnOf "parts_of" "parts_of" (defArgs s_parts_of) (defBody s_parts_of) (defScope s_parts_of) .none kV3 dc3 pm3 an3 cd3 ct3 | 17 => PySem.W.fnOf "is_program" "is_program" (defArgs s_is_program) (defBody s_is_program) (defScope s_is_program) .none kV4 dc4 pm4 an4 cd4 ct4 | 21 => PySem.W.fnOf "words_of" "words_of" (defArgs s_words_of) (defBody s_words_of) (defScope s_words_of) .none kV5 dc5 pm5 an5 cd5 ct5 | 13 => PySem.W.fnOf "_law_hand" "_law_hand" (defArgs s__law_hand) (defBody s__law_hand) (defScope s__law_hand) .none kV6 dc6 pm6 an6 cd6 ct6 | 2 => PySem.W.fnOf "_law_take" "_law_take" (defArgs s__law_take) (defBody s__law_take) (defScope s__law_take) .none kV7 dc7 pm7 an7 cd7 ct7 | 3 => PySem.W.fnOf "_law_of" "_law_of" (defArgs s__law_of) (defBody s__law_of) (defScope s__law_of) .none kV8 dc8 pm8 an8 cd8 ct8 | 7 => PySem.W.fnOf "_law_names" "_law_names" (defArgs s__law_names) (defBody s__law_names) (defScope s__law_names) .none kV9 dc9 pm9 an9 cd9 ct9 | 4 => PySem.W.fnOf "_law_instruction" "_law_instruction" (defArgs s__law_instruction) (defBody s__law_instruction) (defScope s__law_instruction) .none kV10 dc10 pm10 an10 cd10 ct10 | 5 => PySem.W.fnOf "_law_tree" "_law_tree" (defArgs s__law_tree) (defBody s__law_tree) (defScope s__law_tree) .none kV11 dc11 pm11 an11 cd11 ct11 | 6 => PySem.W.fnOf "_law_nodes" "_law_nodes" (defArgs s__law_nodes) (defBody s__law_nodes) (defScope s__law_nodes) .none kV12 dc12 pm12 an12 cd12 ct12 | 15 => PySem.W.fnOf "_law_program" "_law_program" (defArgs s__law_program) (defBody s__law_program) (defScope s__law_program) .none kV13 dc13 pm13 an13 cd13 ct13 | 14 => PySem.W.fnOf "_law_size" "_law_size" (defArgs s__law_size) (defBody s__law_size) (defScope s__law_size) .none kV14 dc14 pm14 an14 cd14 ct14 | 8 => PySem.W.fnOf "_law_odd" "_law_odd" (defArgs s__law_odd) (defBody s__law_odd) (defScope s__law_odd) .none kV15 dc15 pm15 an15 cd15 ct15 | 9 => PySem.W.fnOf "_law_bent" "_law_bent" (defArgs s__law_bent) (defBody s__law_bent) (defScope s__law_bent) .none kV16 dc16 pm16 an16 cd16 ct16 | 10 => PySem.W.fnOf "_law_is_name" "_law_is_name" (defArgs s__law_is_name) (defBody s__law_is_name) (defScope s__law_is_name) .none kV17 dc17 pm17 an17 cd17 ct17 | 11 => PySem.W.fnOf "_law_is_one" "_law_is_one" (defArgs s__law_is_one) (defBody s__law_is_one) (defScope s__law_is_one) .none kV18 dc18 pm18 an18 cd18 ct18 | 12 => PySem.W.fnOf "_law_all_parts" "_law_all_parts" (defArgs s__law_all_parts) (defBody s__law_all_parts) (defScope s__law_all_parts) .none kV19 dc19 pm19 an19 cd19 ct19 | 18 => PySem.W.fnOf "_law_is_program" "_law_is_program" (defArgs s__law_is_program) (defBody s__law_is_program) (defScope s__law_is_program) .none kV20 dc20 pm20 an20 cd20 ct20 | 16 => PySem.W.fnOf "_law_edges" "_law_edges" (defArgs s__law_edges) (defBody s__law_edges) (defScope s__law_edges) .none kV21 dc21 pm21 an21 cd21 ct21 | 422 => PySem.W.fnOf "law" "law" (defArgs s_law) (defBody s_law) (defScope s_law) .none kV22 dc22 pm22 an22 cd22 ct22 | _ => PySem.W.fnOf "law" "law" (defArgs s_law) (defBody s_law) (defScope s_law) .none kV22 dc22 pm22 an22 cd22 ct22) := { F_is_name := F0, g_is_name := PySem.W.mg_of X G a0, a_is_name := F0.binds fun _ _ _ _ _ _ us hl => match us, hl with | [_], _ => rfl, F_is_instruction := F1, g_is_instruction := PySem.W.mg_of X G a1, a_is_instruction := F1.binds fun _ _ _ _ _ _ us hl => match us, hl with | [_], _ => rfl, F_is_composed := F2, g_is_composed := PySem.W.mg_of X G a2, a_is_composed := F2.binds fun _ _ _ _ _ _ us hl => match us, hl with | [_], _ => rfl, F_parts_of := F3, g_parts_of := PySem.W.mg_of X G a3, a_parts_of := F3.binds fun _ _ _ _ _ _ us hl => match us, hl with | [_], _ => rfl, F_is_program := F4, g_is_program := PySem.W.mg_of X G a4, a_is_program := F4.binds fun _ _ _ _ _ _ us hl => match us, hl with | [_], _ => rfl, F_words_of := F5, g_words_of := PySem.W.mg_of X G a5, a_words_of := F5.binds fun _ _ _ _ _ _ us hl => match us, hl with | [_], _ => rfl, F__law_hand := F6, g__law_hand := PySem.W.mg_of X G a6, a__law_hand := F6.binds fun _ _ _ _ _ _ us hl => match us, hl with | [_, _], _ => rfl, F__law_take := F7, g__law_take := PySem.W.mg_of X G a7, a__law_take := F7.binds fun _ _ _ _ _ _ us hl => match us, hl with | [_, _], _ => rfl, F__law_of := F8, g__law_of := PySem.W.mg_of X G a8, a__law_of := F8.binds fun _ _ _ _ _ _ us hl => match us, hl with | [_, _], _ => rfl, F__law_names := F9, g__law_names := PySem.W.mg_of X G a9, a__law_names := F9.binds fun _ _ _ _ _ _ us hl => match us, hl with | [_, _], _ => rfl, F__law_instruction := F10, g__law_instruction := PySem.W.mg_of X G a10, a__law_instruction := F10.binds fun _ _ _ _ _ _ us hl => match us, hl with | [_, _], _ => rfl, F__law_tree := F11, g__law_tree := PySem.W.mg_of X G a11, a__law_tree := F11.binds fun _ _ _ _ _ _ us hl => match us, hl with | [_, _, _, _], _ => rfl, F__law_nodes := F12, g__law_nodes := PySem.W.mg_of X G a12, a__law_nodes := F12.binds fun _ _ _ _ _ _ us hl => match us, hl with | [_], _ => rfl, F__law_program := F13, g__law_program := PySem.W.mg_of X G a13, a__law_program := F13.binds fun _ _ _ _ _ _ us hl => match us, hl with | [_, _], _ => rfl, F__law_size := F14, g__law_size := PySem.W.mg_of X G a14, a__law_size := F14.binds fun _ _ _ _ _ _ us hl => match us, hl with | [_], _ => rfl, F__law_odd := F15, g__law_odd := PySem.W.mg_of X G a15, a__law_odd := F15.binds fun _ _ _ _ _ _ us hl => match us, hl with | [_], _ => rfl, F__law_bent := F16, g__law_bent := PySem.W.mg_of X G a16, a__law_bent := F16.binds fun _ _ _ _ _ _ us hl => match us, hl with | [_, _, _], _ => rfl, F__law_is_name := F17, g__law_is_name := PySem.W.mg_of X G a17, a__law_is_name := F17.binds fun _ _ _ _ _ _ us hl => match us, hl with | [_], _ => rfl, F__law_is_one := F18, g__law_is_one := PySem.W.mg_of X G a18, a__law_is_one := F18.binds fun _ _ _ _ _ _ us hl => match us, hl with | [_], _ => rfl, F__law_all_parts := F19, g__law_all_parts := PySem.W.mg_of X G a19, a__law_all_parts := F19.binds fun _ _ _ _ _ _ us hl => match us, hl with | [_, _], _ => rfl, F__law_is_program := F20, g__law_is_program := PySem.W.mg_of X G a20, a__law_is_program := F20.binds fun _ _ _ _ _ _ us hl => match us, hl with | [_], _ => rfl, F__law_edges := F21, g__law_edges := PySem.W.mg_of X G a21, a__law_edges := F21.binds fun _ _ _ _ _ _ us hl => match us, hl with | [_], _ => rfl, F_law := F22, g_law := PySem.W.mg_of X G a22, a_law := F22.binds fun _ _ _ _ _ _ us hl => match us, hl with | [_], _ => rfl, c_MOST_LETTERS := ⟨_, PySem.W.mg_of X G c_MOST_LETTERS⟩, c_LETTERS := ⟨_, PySem.W.mg_of X G c_LETTERS⟩, c_NEW := ⟨_, PySem.W.mg_of X G c_NEW⟩, c_COPY := ⟨_, PySem.W.mg_of X G c_COPY⟩, c_USE := ⟨_, PySem.W.mg_of X G c_USE⟩, c_DROP := ⟨_, PySem.W.mg_of X G c_DROP⟩, c_COPY_PARTS := ⟨_, PySem.W.mg_of X G c_COPY_PARTS⟩, c_PAIR := ⟨_, PySem.W.mg_of X G c_PAIR⟩, c_LOOP := ⟨_, PySem.W.mg_of X G c_LOOP⟩, c_SEQ := ⟨_, PySem.W.mg_of X G c_SEQ⟩, c_MOST_PARTS := ⟨_, PySem.W.mg_of X G c_MOST_PARTS⟩, c_BRANCH := ⟨_, PySem.W.mg_of X G c_BRANCH⟩, c_MOST_BRANCHES := ⟨_, PySem.W.mg_of X G c_MOST_BRANCHES⟩, c_MOST_PROGRAMS := ⟨_, PySem.W.mg_of X G c_MOST_PROGRAMS⟩, c_MOST_DEPTH := ⟨_, PySem.W.mg_of X G c_MOST_DEPTH⟩, c_MOST_INSTRUCTIONS := ⟨_, PySem.W.mg_of X G c_MOST_INSTRUCTIONS⟩, c_MOST_NAMES := ⟨_, PySem.W.mg_of X G c_MOST_NAMES⟩, b_isinstance := PySem.W.mg_none_of X G z_isinstance, b_str := PySem.W.mg_none_of X G z_str, b_len := PySem.W.mg_none_of X G z_len, b_all := PySem.W.mg_none_of X G z_all, b_tuple := PySem.W.mg_none_of X G z_tuple, b_sorted := PySem.W.mg_none_of X G z_sorted, b_abs := PySem.W.mg_none_of X G z_abs, b_int := PySem.W.mg_none_of X G z_int, b_min := PySem.W.mg_none_of X G z_min, b_range := PySem.W.mg_none_of X G z_range, b_sum := PySem.W.mg_none_of X G z_sum, b_max := PySem.W.mg_none_of X G z_max, b_list := PySem.W.mg_none_of X G z_list, b_any := PySem.W.mg_none_of X G z_any, b_repr := PySem.W.mg_none_of X G z_repr }
  exact ⟨_, fun _ => 0, T 60 i422_law, fun s u => .of_eq rfl, LT, fun base _ _ sm => all_ok M sm 60 i422_law (by decide)⟩
end Lr.Own
namespace Lr.Own
open PySem PySem.Spec L2 Lr
theorem pred_of {k m : Nat} (h : m + 1 ≤ k) : ∃ j, k = j + 1 ∧ m ≤ j := ⟨k - 1, by omega, by omega⟩
theorem TK (k : Nat) (h : 1 ≤ k) : TakeOk (T k i2_law_take) := by
  obtain ⟨j, rfl, h⟩ := pred_of h
  exact fun n many h1 h2 => take_draws (T j) h1 h2
theorem TF (k : Nat) (h : 2 ≤ k) : OfOk (T k i3_law_of) := by
  obtain ⟨j, rfl, h⟩ := pred_of h
  exact of_ok (T j) (TK j (by omega))
theorem TF2 (k : Nat) (h : 2 ≤ k) : OfOk2 (T k i3_law_of) := by
  obtain ⟨j, rfl, h⟩ := pred_of h
  exact of_ok2 (T j) (TK j (by omega))
theorem TN (k : Nat) (h : 2 ≤ k) : NamesOk (T k i7_law_names) := by
  obtain ⟨j, rfl, h⟩ := pred_of h
  exact names_ok (T j) (TK j (by omega))
theorem TI (k : Nat) (h : 3 ≤ k) : InsOk (T k i4_law_instruction) := by
  obtain ⟨j, rfl, h⟩ := pred_of h
  exact instr_ok (T j) (TK j (by omega)) (TF2 j (by omega))
theorem TT : ∀ (d k : Nat), d + 4 ≤ k → TreeOk (T k i5_law_tree) (d + 1)
  | 0, k, h => by
    obtain ⟨j, rfl, h⟩ := pred_of h
    exact tree_ok (T j) (TK j (by omega)) (TF j (by omega)) (TI j (by omega)) 0 (fun z => absurd z (by omega))
  | d + 1, k, h => by
    obtain ⟨j, rfl, h⟩ := pred_of (m := d + 4) (by omega)
    exact tree_ok (T j) (TK j (by omega)) (TF j (by omega)) (TI j (by omega)) (d + 1) (fun _ => TT d j (by omega))
theorem NO : ∀ (d k : Nat), d ≤ k → NodesOk (T k i6_law_nodes) d
  | 0, k, h => fun N t _ hd => absurd (Tr.dep_pos t) (by omega)
  | d + 1, k, h => by
    obtain ⟨j, rfl, h⟩ := pred_of h
    exact nodes_ok (T j) d (NO d j (by omega))
theorem TS (k : Nat) (h : 3 ≤ k) : ∀ n, Draws (T k i14_law_size) n [.loc n] 1 (fun v => ∃ i : Int, v = .int i ∧ 4 ≤ i ∧ i ≤ 40) := by
  obtain ⟨j, rfl, h⟩ := pred_of h
  exact fun n => size_ok (T j) (TF j (by omega)) n
theorem TP (k : Nat) (h : 20 ≤ k) : ProgOk (T k i15_law_program) := by
  obtain ⟨j, rfl, h⟩ := pred_of h
  refine program_ok (T j) (TK j (by omega)) (TF j (by omega)) (TF2 j (by omega)) (TN j (by omega)) (fun d h1 h2 => ?_) (NO 7 j (by omega))
  obtain ⟨e, rfl, _⟩ := pred_of h1
  exact TT e j (by omega)
theorem NA1 (k : Nat) (h : 1 ≤ k) : NameOk (T k i1_is_name) := by
  obtain ⟨j, rfl, h⟩ := pred_of h
  exact name_ok (T j)
theorem NA2 (k : Nat) (h : 1 ≤ k) : NameOk (T k i10_law_is_name) := by
  obtain ⟨j, rfl, h⟩ := pred_of h
  exact lname_ok (T j)
theorem ON1 (k : Nat) (h : 2 ≤ k) : OneOk (T k i420_is_instruction) := by
  obtain ⟨j, rfl, h⟩ := pred_of h
  exact one_ok (T j) (NA1 j (by omega))
theorem ON2 (k : Nat) (h : 2 ≤ k) : OneOk (T k i11_law_is_one) := by
  obtain ⟨j, rfl, h⟩ := pred_of h
  exact lone_ok (T j) (NA2 j (by omega))
theorem CO (k : Nat) (h : 1 ≤ k) : CompOk (T k i421_is_composed) := by
  obtain ⟨j, rfl, h⟩ := pred_of h
  exact comp_ok (T j)
theorem PV (k : Nat) (h : 1 ≤ k) : PartsVOk (T k i19_parts_of) := by
  obtain ⟨j, rfl, h⟩ := pred_of h
  exact partsv_ok (T j)
theorem WV (k : Nat) (h : 1 ≤ k) : WordsVOk (T k i21_words_of) := by
  obtain ⟨j, rfl, h⟩ := pred_of h
  exact wordsv_ok (T j)
theorem OD (k : Nat) (h : 3 ≤ k) : OddOk (T k i8_law_odd) := by
  obtain ⟨j, rfl, h⟩ := pred_of h
  exact odd_ok (T j) (TF j (by omega))
theorem AL : ∀ (d k : Nat), d + 3 ≤ k → AllOk (T k i12_law_all_parts) (d + 1)
  | 0, k, h => by
    obtain ⟨j, rfl, h⟩ := pred_of h
    exact Lr.all_ok (T j) (ON2 j (by omega)) 0 (fun z => absurd z (by omega))
  | d + 1, k, h => by
    obtain ⟨j, rfl, h⟩ := pred_of h
    exact Lr.all_ok (T j) (ON2 j (by omega)) (d + 1) (fun _ => AL d j (by omega))
theorem BE : ∀ (d k : Nat), d + 5 ≤ k → Bent1 (T k i9_law_bent) d
  | 0, k, h => by
    obtain ⟨j, rfl, h⟩ := pred_of h
    exact bent1_ok (T j) (TK j (by omega)) (TF j (by omega)) (OD j (by omega)) 0 (fun z => absurd z (by omega))
  | d + 1, k, h => by
    obtain ⟨j, rfl, h⟩ := pred_of h
    exact bent1_ok (T j) (TK j (by omega)) (TF j (by omega)) (OD j (by omega)) (d + 1) (fun _ => BE d j (by omega))
theorem law_true (ns : List Int) (h : ns.length ≤ 63) (hb : ∀ i ∈ ns, Builtin.Int.intBits i ≤ 1048576) : ∃ μ, T 60 i422_law [.scr ns] [] = .ok (.bl true) μ := by
  have hp1 : ProgBOk (T 59 i17_is_program) := prog_ok (T 58) (ON1 58 (by decide)) (CO 58 (by decide)) (PV 58 (by decide)) (WV 58 (by decide))
  have hp2 : LProgOk (T 59 i18_law_is_program) := lprog_ok (T 58) (ON2 58 (by decide)) (AL 20 58 (by decide))
  have hed : EdgesOk (T 59 i16_law_edges) := edges_ok (T 58) (TF 58 (by decide))
  have z := (law01_ok (T 59) (hand_ok (T 58)) (TS 59 (by decide)) (TP 59 (by decide)) hed (TF 59 (by decide)) (BE 6 59 (by decide)) (OD 59 (by decide)) (NA1 59 (by decide)) hp1 (NA2 59 (by decide)) hp2 ns).elim
  obtain ⟨v, μ, e, rfl⟩ := z
  exact ⟨μ, e⟩
end Lr.Own
open PySem PySem.W PyProof.Rows
set_option maxHeartbeats 0 in
theorem PySem.Challenge.cw_leanrefs_k01_programs_of_anything_holds : PySem.Challenge.rw_leanrefs_k01_programs_of_anything.Holds := by
  w_on; o_law; k_head; (case hw => w_witness2)
  k_fill
  refine Lr.law_walk (l := PySem.Challenge.rw_leanrefs_k01_programs_of_anything) (n := 63) (k := 60) (x := "_law_script") rfl (by decide) rfl ⟨rfl, by decide, by decide⟩ (by decide +kernel) (fun w h Y => PySem.W.kIn_of Y) ?F
  case F =>
    intro w mg fa h KX G hmg
    refine' Lr.Own.all_mk KX G hmg Lr.Own.law_true ?a0 ?l0 ?d0 ?k0 ?a1 ?l1 ?d1 ?k1 ?a2 ?l2 ?d2 ?k2 ?a3 ?l3 ?d3 ?k3 ?a4 ?l4 ?d4 ?k4 ?a5 ?l5 ?d5 ?k5 ?a6 ?l6 ?d6 ?k6 ?a7 ?l7 ?d7 ?k7 ?a8 ?l8 ?d8 ?k8 ?a9 ?l9 ?d9 ?k9 ?a10 ?l10 ?d10 ?k10 ?a11 ?l11 ?d11 ?k11 ?a12 ?l12 ?d12 ?k12 ?a13 ?l13 ?d13 ?k13 ?a14 ?l14 ?d14 ?k14 ?a15 ?l15 ?d15 ?k15 ?a16 ?l16 ?d16 ?k16 ?a17 ?l17 ?d17 ?k17 ?a18 ?l18 ?d18 ?k18 ?a19 ?l19 ?d19 ?k19 ?a20 ?l20 ?d20 ?k20 ?a21 ?l21 ?d21 ?k21 ?a22 ?l22 ?d22 ?k22 ?c_MOST_LETTERS ?c_LETTERS ?c_NEW ?c_COPY ?c_USE ?c_DROP ?c_COPY_PARTS ?c_PAIR ?c_LOOP ?c_SEQ ?c_MOST_PARTS ?c_BRANCH ?c_MOST_BRANCHES ?c_MOST_PROGRAMS ?c_MOST_DEPTH ?c_MOST_INSTRUCTIONS ?c_MOST_NAMES ?z_isinstance ?z_str ?z_len ?z_all ?z_tuple ?z_sorted ?z_abs ?z_int ?z_min ?z_range ?z_sum ?z_max ?z_list ?z_any ?z_repr
    (case a0 => k_is); (case l0 => k_is); (case d0 => k_is); (case k0 => k_is); (case a1 => k_is); (case l1 => k_is); (case d1 => k_is); (case k1 => k_is); (case a2 => k_is); (case l2 => k_is); (case d2 => k_is); (case k2 => k_is); (case a3 => k_is); (case l3 => k_is); (case d3 => k_is); (case k3 => k_is); (case a4 => k_is); (case l4 => k_is); (case d4 => k_is); (case k4 => k_is); (case a5 => k_is); (case l5 => k_is); (case d5 => k_is); (case k5 => k_is); (case a6 => k_is); (case l6 => k_is); (case d6 => k_is); (case k6 => k_is); (case a7 => k_is); (case l7 => k_is); (case d7 => k_is); (case k7 => k_is); (case a8 => k_is); (case l8 => k_is); (case d8 => k_is); (case k8 => k_is); (case a9 => k_is); (case l9 => k_is); (case d9 => k_is); (case k9 => k_is); (case a10 => k_is); (case l10 => k_is); (case d10 => k_is); (case k10 => k_is); (case a11 => k_is); (case l11 => k_is); (case d11 => k_is); (case k11 => k_is); (case a12 => k_is); (case l12 => k_is); (case d12 => k_is); (case k12 => k_is); (case a13 => k_is); (case l13 => k_is); (case d13 => k_is); (case k13 => k_is); (case a14 => k_is); (case l14 => k_is); (case d14 => k_is); (case k14 => k_is); (case a15 => k_is); (case l15 => k_is); (case d15 => k_is); (case k15 => k_is); (case a16 => k_is); (case l16 => k_is); (case d16 => k_is); (case k16 => k_is); (case a17 => k_is); (case l17 => k_is); (case d17 => k_is); (case k17 => k_is); (case a18 => k_is); (case l18 => k_is); (case d18 => k_is); (case k18 => k_is); (case a19 => k_is); (case l19 => k_is); (case d19 => k_is); (case k19 => k_is); (case a20 => k_is); (case l20 => k_is); (case d20 => k_is); (case k20 => k_is); (case a21 => k_is); (case l21 => k_is); (case d21 => k_is); (case k21 => k_is); (case a22 => k_is); (case l22 => k_is); (case d22 => k_is); (case k22 => k_is); (case c_MOST_LETTERS => k_is); (case c_LETTERS => k_is); (case c_NEW => k_is); (case c_COPY => k_is); (case c_USE => k_is); (case c_DROP => k_is); (case c_COPY_PARTS => k_is); (case c_PAIR => k_is); (case c_LOOP => k_is); (case c_SEQ => k_is); (case c_MOST_PARTS => k_is); (case c_BRANCH => k_is); (case c_MOST_BRANCHES => k_is); (case c_MOST_PROGRAMS => k_is); (case c_MOST_DEPTH => k_is); (case c_MOST_INSTRUCTIONS => k_is); (case c_MOST_NAMES => k_is); (case z_isinstance => k_is); (case z_str => k_is); (case z_len => k_is); (case z_all => k_is); (case z_tuple => k_is); (case z_sorted => k_is); (case z_abs => k_is); (case z_int => k_is); (case z_min => k_is); (case z_range => k_is); (case z_sum => k_is); (case z_max => k_is); (case z_list => k_is); (case z_any => k_is); (case z_repr => k_is)
