import PyProof.Rows.All
import HandS.ForMost
import HandS.ForExc
import HandS.TryMany
import HandS.ExcIs
import HandS.Lambda
import HandS.Wide
import HandS.TupAny
import HandS.TupMul
import PyProof.Rows.IntBool
import PyProof.PureInt
import HandS.IsInst
import HandS.RaiseMore
import PyProof.NeKinds
import HandS.Text
import HandS.Style
import HandS.Dict
import HandS.Ends
import HandS.EndBits
import PyProof.NoPylong
import HandS.EndTab
import HandS.DictComp
import HandS.More
import PyProof.DictUpdate
import HandS.List
import PyProof.Rows.StrMeet
import HandS.Comp
import HandS.Iter
import HandS.ExcInit
import HandS.ExcValue
import HandS.WordsExc
import KE.KExcIs
import HandS.EndOwn
import KE.KNestM
import HandS.Conv
import PyProof.Rows.MatchSeqLen
import PyProof.RulesMatch
import HandS.SortInts
import HandS.Strs
import HandS.SetFor
import PyProof.Rows.SetFrom
import PyProof.Rows.StrDigitsNeg
import PyProof.Rows.StrJoinMade
import PyProof.StrLawsRepr
import PySem.Challenge.RW_leanrefs_k03_instructions_left_out
set_option Elab.async false
set_option linter.all false
set_option maxRecDepth 100000

namespace Lr
open PySem PySem.Spec L2
open PyProof.Rows hiding St


structure Kap where
  ad : Nat → Addr
  T : List (Addr × Str) := []
instance : CoeFun Kap (fun _ => Nat → Addr) := ⟨Kap.ad⟩

inductive AV where
  | non | bl (b : Bool) | int (i : Int) | str (x : Str)
  | tup (xs : List AV) | lst (xs : List AV) | dct (kvs : List (AV × AV))
  | loc (n : Nat) | obj (k : Nat) | scr (ns : List Int) | ty (n : String)
  deriving Inhabited

inductive AO where
  | lst (xs : List AV)
  | dct (kvs : List (Key × AV))
  | ins (c : Nat) (fs : List (Str × AV))
  | exc (c : Nat) (p : Option AV)
  | dead
  deriving Inhabited

abbrev Store := List AO
inductive Res (α : Type) where
  | ok (a : α) (μ : Store)
  | ex (c : Nat) (p : Option AV) (μ : Store)
  | bad
abbrev Loc := List (Option AV)
inductive Out where
  | nx (ρ : Loc) (μ : Store)
  | rt (v : AV) (μ : Store)
  | bk (ρ : Loc) (μ : Store)
  | ct (ρ : Loc) (μ : Store)
  | ex (c : Nat) (p : Option AV) (ρ : Loc) (μ : Store)
  | bad
abbrev AE := Loc → Store → Res AV
abbrev AT := Loc → Store → Res Bool
abbrev AA := Loc → Store → Res (List AV)
abbrev AS := Loc → Store → Out
abbrev Fn := List AV → Store → Res AV

def Res.bind {α β : Type} (r : Res α) (f : α → Store → Res β) : Res β :=
  match r with
  | .ok a μ => f a μ
  | .ex c p μ => .ex c p μ
  | .bad => .bad
@[simp] theorem Res.bind_ok {α β : Type} (a : α) (μ : Store) (f : α → Store → Res β) : (Res.ok a μ).bind f = f a μ := rfl
@[simp] theorem Res.bind_ex {α β : Type} (c : Nat) (p : Option AV) (μ : Store) (f : α → Store → Res β) : (Res.ex c p μ : Res α).bind f = .ex c p μ := rfl
@[simp] theorem Res.bind_bad {α β : Type} (f : α → Store → Res β) : (Res.bad : Res α).bind f = .bad := rfl

def Res.out {α : Type} (r : Res α) (ρ : Loc) (f : α → Store → Out) : Out :=
  match r with
  | .ok a μ => f a μ
  | .ex c p μ => .ex c p ρ μ
  | .bad => .bad
@[simp] theorem Res.out_ok {α : Type} (a : α) (μ : Store) (ρ : Loc) (f : α → Store → Out) : (Res.ok a μ).out ρ f = f a μ := rfl
@[simp] theorem Res.out_ex (c : Nat) (p : Option AV) (μ : Store) (ρ : Loc) {α : Type} (f : α → Store → Out) : (Res.ex c p μ).out ρ f = .ex c p ρ μ := rfl
@[simp] theorem Res.out_bad (ρ : Loc) {α : Type} (f : α → Store → Out) : (Res.bad).out ρ f = .bad := rfl



def Pres (K : PySem.W.Frag) (A : Addr) : Prop := (PySem.W.clsIn K A).isSome = true ∧ PySem.W.typeIn K (.ref A) = some (.type "type") ∧ PySem.W.subIn K (.ref A) (.type "BaseException") = some true
def FzL (K : PySem.W.Frag) (H : Hp) (a : Addr) (vs : List V) : Prop := ∃ o, H a = some (.frz o (.lst vs)) ∧ a ≠ sysModules

def ScL (K : PySem.W.Frag) (H : Hp) (a : Addr) (vs : List V) : Prop := (∃ o, H a = some (.frz o (.lst vs))) ∨ SqL K (fun _ => none) a vs
theorem ScL.sq {K : PySem.W.Frag} {H : Hp} {a : Addr} {vs : List V} (h : ScL K H a vs) : SqL K H a vs := by
  rcases h with h | (h | ⟨_, h⟩) | h
  · exact .inl (.inr h)
  · cases h
  · cases h
  · exact .inr h
mutual
inductive Rel (K : PySem.W.Frag) (κ : Kap) (ι : List Addr) (H : Hp) : AV → V → Prop
  | non : Rel K κ ι H .non .non
  | bl (b : Bool) : Rel K κ ι H (.bl b) (.bl b)
  | int (i : Int) : Rel K κ ι H (.int i) (.int i)
  | str (x : Str) : Rel K κ ι H (.str x) (.str x)
  | tup {xs : List AV} {a : Addr} {vs : List V} (h : SqT K H a vs) (r : RelL K κ ι H xs vs) : Rel K κ ι H (.tup xs) (.ref a)
  | lst {xs : List AV} {a : Addr} {vs : List V} (h : FzL K H a vs) (r : RelL K κ ι H xs vs) : Rel K κ ι H (.lst xs) (.ref a)
  | dct {kvs : List (AV × AV)} {a : Addr} {o : Obj} {es : Array DictEntry} {ep : Nat} (h : H a = some (.frz o (.ext fun h => h.get? a = some o))) (ho : o.ExactDict) (hd : o.data = .dict es ep) (hn : a ≠ sysModules) (r : RelD K κ ι H kvs es.toList) : Rel K κ ι H (.dct kvs) (.ref a)
  | loc {n : Nat} {a : Addr} (h : ι[n]? = some a) : Rel K κ ι H (.loc n) (.ref a)
  | obj (k : Nat) (h : Pres K (κ k)) : Rel K κ ι H (.obj k) (.ref (κ k))
  | scr {ns : List Int} {a : Addr} (h : ScL K H a (ns.map V.int)) : Rel K κ ι H (.scr ns) (.ref a)
  | ty (n : String) : Rel K κ ι H (.ty n) (.ty n)
inductive RelL (K : PySem.W.Frag) (κ : Kap) (ι : List Addr) (H : Hp) : List AV → List V → Prop
  | nil : RelL K κ ι H [] []
  | cons {x : AV} {v : V} {xs : List AV} {vs : List V} (h : Rel K κ ι H x v) (r : RelL K κ ι H xs vs) : RelL K κ ι H (x :: xs) (v :: vs)
inductive RelD (K : PySem.W.Frag) (κ : Kap) (ι : List Addr) (H : Hp) : List (AV × AV) → List DictEntry → Prop
  | nil : RelD K κ ι H [] []
  | cons {x y : AV} {v u : V} {e : DictEntry} {kvs : List (AV × AV)} {es : List DictEntry} (h : Rel K κ ι H x v) (hv : RelV v e.key) (g : Rel K κ ι H y u) (gv : RelV u e.val) (r : RelD K κ ι H kvs es) : RelD K κ ι H ((x, y) :: kvs) (e :: es)
end


structure HW (H H' : Hp) : Prop where
  tup : ∀ b xs, H b = some (.tup xs) → H' b = some (.tup xs)
  frz : ∀ b o u, H b = some (.frz o u) → H' b = some (.frz o u)
theorem HW.refl (H : Hp) : HW H H := ⟨fun _ _ h => h, fun _ _ _ h => h⟩

structure HM (ι : List Addr) (H : Hp) (ι' : List Addr) (H' : Hp) : Prop where
  pre : ι <+: ι'
  tup : ∀ b xs, H b = some (.tup xs) → H' b = some (.tup xs)
  frz : ∀ b o u, H b = some (.frz o u) → H' b = some (.frz o u)
  oth' : ∀ b u, b ∉ ι → H b = some u → (∀ ps, u ≠ .tbl ps) → H' b = some u
  new : ∀ b, b ∈ ι' → b ∉ ι → H b = none
  tb : ∀ b ps, H b = some (.tbl ps) → ∃ qs, H' b = some (.tbl qs)
theorem HM.oth {ι ι' : List Addr} {H H' : Hp} (m : HM ι H ι' H') (b : Addr) (u : HO) (h : b ∉ ι) (e : H b = some u) (hu : ∀ ps, u ≠ .tbl ps := by intro _ z; cases z) : H' b = some u := m.oth' b u h e hu
theorem HM.live {ι ι' : List Addr} {H H' : Hp} (m : HM ι H ι' H') {b : Addr} {u : HO} (h : b ∉ ι) (e : H b = some u) : H' b ≠ none := by
  by_cases hu : ∃ ps, u = .tbl ps
  · obtain ⟨ps, rfl⟩ := hu
    obtain ⟨qs, z⟩ := m.tb b ps e
    rw [z]; simp
  · rw [m.oth' b u h e fun ps z => hu ⟨ps, z⟩]; simp
theorem HM.w {ι ι' : List Addr} {H H' : Hp} (m : HM ι H ι' H') : HW H H' := ⟨m.tup, m.frz⟩

structure HV (ι : List Addr) (H : Hp) (ι' : List Addr) (H' : Hp) : Prop where
  pre : ι <+: ι'
  w : HW H H'
theorem HM.v {ι ι' : List Addr} {H H' : Hp} (m : HM ι H ι' H') : HV ι H ι' H' := ⟨m.pre, m.w⟩
theorem HM.refl {ι : List Addr} (H : Hp) : HM ι H ι H := ⟨List.prefix_refl _, fun _ _ h => h, fun _ _ _ h => h, fun _ _ _ h _ => h, fun _ h n => absurd h n, fun _ ps h => ⟨ps, h⟩⟩
theorem HM.trans {ι ι1 ι2 : List Addr} {H H1 H2 : Hp} (a : HM ι H ι1 H1) (b : HM ι1 H1 ι2 H2) : HM ι H ι2 H2 where
  pre := a.pre.trans b.pre
  tup := fun _ _ h => b.tup _ _ (a.tup _ _ h)
  frz := fun _ _ _ h => b.frz _ _ _ (a.frz _ _ _ h)
  oth' := fun c u n h hu => b.oth' c u (fun z => by rw [a.new c z n] at h; cases h) (a.oth' c u n h hu) hu
  tb := fun c ps h => let ⟨qs, z⟩ := a.tb c ps h; b.tb c qs z
  new := fun c h n => by
    by_cases z : c ∈ ι1
    · exact a.new c z n
    · have q := b.new c h z
      cases e : H c with
      | none => rfl
      | some u =>
        exact absurd q (a.live n e)
theorem HW.seqT {K : PySem.W.Frag} {H H' : Hp} {a : Addr} {vs : List V} (m : HW H H') (h : SqT K H a vs) : SqT K H' a vs := by
  rcases h with (h | ⟨o, h⟩) | h
  · exact .inl (.inl (m.tup _ _ h))
  · exact .inl (.inr ⟨o, m.frz _ _ _ h⟩)
  · exact .inr h
theorem HW.fz {K : PySem.W.Frag} {H H' : Hp} {a : Addr} {vs : List V} (m : HW H H') (h : FzL K H a vs) : FzL K H' a vs := let ⟨o, e, n⟩ := h; ⟨o, m.frz _ _ _ e, n⟩
theorem FzL.sq {K : PySem.W.Frag} {H : Hp} {a : Addr} {vs : List V} (h : FzL K H a vs) : SqL K H a vs := let ⟨o, e, _⟩ := h; .inl (.inr ⟨o, e⟩)

theorem HM.fresh {ι : List Addr} {H : Hp} {a : Addr} {o : HO} (h : H a = none) : HM ι H ι (upd H a o) :=
  ⟨List.prefix_refl _, fun b xs e => by rw [upd_ne (ne_of_none e h)]; exact e, fun b o' u e => by rw [upd_ne (ne_of_none e h)]; exact e, fun b u _ e _ => by rw [upd_ne (ne_of_none e h)]; exact e, fun _ h n => absurd h n, fun b ps e => ⟨ps, by rw [upd_ne (ne_of_none e h)]; exact e⟩⟩
theorem HM.wr {ι : List Addr} {H : Hp} {a : Addr} {o : HO} (h : Mut (H a)) (ha : a ∈ ι) : HM ι H ι (upd H a o) :=
  ⟨List.prefix_refl _, fun b xs e => by rw [upd_ne (fun z => by subst z; rw [e] at h; exact h)]; exact e, fun b o' u e => by rw [upd_ne (fun z => by subst z; rw [e] at h; exact h)]; exact e,
    fun b u n e _ => by rw [upd_ne (fun z => by subst z; exact n ha)]; exact e, fun _ h n => absurd h n, fun b ps e => ⟨ps, by rw [upd_ne (fun z => by subst z; rw [e] at h; exact h)]; exact e⟩⟩
section
variable {K : PySem.W.Frag} {κ : Kap} {ι ι' : List Addr} {H H' : Hp}
theorem get_prefix (p : ι <+: ι') {n : Nat} {a : Addr} (h : ι[n]? = some a) : ι'[n]? = some a := by
  obtain ⟨r, rfl⟩ := p
  have hn : n < ι.length := (List.getElem?_eq_some_iff.mp h).1
  rw [List.getElem?_append_left hn]
  exact h
end

section
variable {K : PySem.W.Frag} {κ : Kap} {ι ι' : List Addr} {H H' : Hp}
mutual
theorem Rel.monoW (p : ι <+: ι') (m : HW H H') : ∀ {x : AV} {v : V}, Rel K κ ι H x v → Rel K κ ι' H' x v
  | _, _, .non => .non
  | _, _, .bl b => .bl b
  | _, _, .int i => .int i
  | _, _, .str x => .str x
  | _, _, .tup h r => .tup (m.seqT h) (RelL.monoW p m r)
  | _, _, .lst h r => .lst (m.fz h) (RelL.monoW p m r)
  | _, _, .dct h ho hd hn r => .dct (m.frz _ _ _ h) ho hd hn (RelD.monoW p m r)
  | _, _, .loc h => .loc (get_prefix p h)
  | _, _, .obj k h => .obj k h
  | _, _, .scr h => .scr (h.imp (fun ⟨o, e⟩ => ⟨o, m.frz _ _ _ e⟩) id)
  | _, _, .ty n => .ty n
theorem RelL.monoW (p : ι <+: ι') (m : HW H H') : ∀ {xs : List AV} {vs : List V}, RelL K κ ι H xs vs → RelL K κ ι' H' xs vs
  | _, _, .nil => .nil
  | _, _, .cons h r => .cons (Rel.monoW p m h) (RelL.monoW p m r)
theorem RelD.monoW (p : ι <+: ι') (m : HW H H') : ∀ {xs : List (AV × AV)} {vs : List DictEntry}, RelD K κ ι H xs vs → RelD K κ ι' H' xs vs
  | _, _, .nil => .nil
  | _, _, .cons h hv g gv r => .cons (Rel.monoW p m h) hv (Rel.monoW p m g) gv (RelD.monoW p m r)
end
theorem Rel.mono (p : ι <+: ι') (m : HM ι H ι' H') {x : AV} {v : V} (h : Rel K κ ι H x v) : Rel K κ ι' H' x v := h.monoW p m.w
theorem RelL.mono (p : ι <+: ι') (m : HM ι H ι' H') {x : List AV} {v : List V} (h : RelL K κ ι H x v) : RelL K κ ι' H' x v := h.monoW p m.w
end


def RelF (K : PySem.W.Frag) (κ : Kap) (ι : List Addr) (H : Hp) : List (Str × AV) → List (Str × V) → Prop := Paired fun p q => p.1 = q.1 ∧ Rel K κ ι H p.2 q.2
def RelK (K : PySem.W.Frag) (κ : Kap) (ι : List Addr) (H : Hp) : List (Key × AV) → List (Key × V) → Prop := Paired fun p q => p.1 = q.1 ∧ Rel K κ ι H p.2 q.2

def XDict (od : Obj) (x : V) : Prop := ∀ (h : Heap) (d : Addr), h.get? d = some od → ∃ mA, h.Ns1 d mA ∧ ∀ f, RelO (List.lookup f [(("value" : Str), x)]) (mA f)

abbrev KnO (H : Hp) (a : Addr) (o : Obj) : Prop := H a = some (.frz o (.ext fun h => h.get? a = some o))

def isub (c d : Nat) : Bool := c == d || d == 0

structure KC (K : PySem.W.Frag) (κ : Kap) (c : Nat) : Prop where
  ec : ExcC K (κ c)
  sub : ∀ d, Pres K (κ d) → PySem.W.subIn K (.ref (κ c)) (.ref (κ d)) = some (isub c d)
  ve : PySem.W.subIn K (.ref (κ c)) (.type "ValueError") = some true
  nv : PySem.W.findIn K (.ref (κ c)) "value" = some none
def ExcR (K : PySem.W.Frag) (κ : Kap) (ι : List Addr) (H : Hp) (oa : Obj) : Option AV → Prop
  | none => oa.dict = none
  | some v => ∃ d od x, oa.dict = some d ∧ KnO H d od ∧ XDict od x ∧ Rel K κ ι H v x
def ObjR (K : PySem.W.Frag) (κ : Kap) (ι : List Addr) (H : Hp) (a : Addr) : AO → Prop
  | .lst xs => ∃ vs, H a = some (.lst vs) ∧ RelL K κ ι H xs vs
  | .dct kvs => ∃ vs, H a = some (.dK vs) ∧ RelK K κ ι H kvs vs
  | .ins c fs => ∃ dx vs, H a = some (.ins (κ c) dx vs) ∧ RelF K κ ι H fs vs
  | .exc c p => ∃ oa, KnO H a oa ∧ oa.cls = .ref (κ c) ∧ (∃ vs, oa.data = .fields vs) ∧ ExcR K κ ι H oa p ∧ KC K κ c
  | .dead => True

def NoE : Option HO → Prop
  | some (.tbl _) => False
  | some (.ext _) => False
  | _ => True
theorem tabs_wr {T : List (Addr × Str)} {H : Hp} {a : Addr} {u : HO} (t : LamX.Tabs T H) (h : NoE (H a)) : LamX.Tabs T (upd H a u) := fun p hp => by
  obtain ⟨ps, h1, h2, h3⟩ := t p hp
  refine ⟨ps, by rw [upd_ne (fun z => by rw [← z, h1] at h; exact h)]; exact h1, h2, fun pos cv hc => ?_⟩
  obtain ⟨c, e1, e2⟩ := h3 pos cv hc
  exact ⟨c, e1, by rw [upd_ne (fun z => by rw [← z, e2] at h; exact h)]; exact e2⟩
structure SR (K : PySem.W.Frag) (κ : Kap) (ι : List Addr) (μ : Store) (H : Hp) : Prop where
  len : ι.length = μ.length
  nd : ι.Nodup
  on : ∀ a ∈ ι, H a ≠ none
  ne : ∀ a ∈ ι, NoE (H a)
  tabs : LamX.Tabs κ.T H
  obj : ∀ (n : Nat) (o : AO) (a : Addr), μ[n]? = some o → ι[n]? = some a → ObjR K κ ι H a o
def RelS (K : PySem.W.Frag) (κ : Kap) (ι : List Addr) (H : Hp) (ρ : Loc) (σ : St) : Prop :=
  ρ.length = σ.length ∧ ∀ (i : Nat) (v : AV), ρ[i]? = some (some v) → ∃ x, σ[i]? = some (some x) ∧ Rel K κ ι H v x

def ExR (K : PySem.W.Frag) (κ : Kap) (ι : List Addr) (H : Hp) (c : Nat) (d : Option Addr) (p : Option AV) : Prop := KC K κ c ∧ match p with
  | none => d = none
  | some v => ∃ dx od x, d = some dx ∧ KnO H dx od ∧ XDict od x ∧ Rel K κ ι H v x
section
variable {K : PySem.W.Frag} {κ : Kap} {ι ι' : List Addr} {H H' : Hp}
theorem RelF.mono (p : ι <+: ι') (m : HW H H') {xs : List (Str × AV)} {vs : List (Str × V)} (r : RelF K κ ι H xs vs) : RelF K κ ι' H' xs vs :=
  Paired.mapP r fun _ _ z => ⟨z.1, z.2.monoW p m⟩
theorem RelK.mono (p : ι <+: ι') (m : HW H H') {xs : List (Key × AV)} {vs : List (Key × V)} (r : RelK K κ ι H xs vs) : RelK K κ ι' H' xs vs :=
  Paired.mapP r fun _ _ z => ⟨z.1, z.2.monoW p m⟩
theorem RelS.mono (p : ι <+: ι') (m : HM ι H ι' H') {ρ : Loc} {σ : St} (r : RelS K κ ι H ρ σ) : RelS K κ ι' H' ρ σ :=
  ⟨r.1, fun i v e => let ⟨x, e1, r1⟩ := r.2 i v e; ⟨x, e1, r1.mono p m⟩⟩
theorem RelL.length : ∀ {xs : List AV} {vs : List V}, RelL K κ ι H xs vs → xs.length = vs.length
  | _, _, .nil => rfl
  | _, _, .cons _ r => congrArg (· + 1) (RelL.length r)
theorem RelL.get : ∀ {xs : List AV} {vs : List V} {i : Nat} {x : AV}, RelL K κ ι H xs vs → xs[i]? = some x → ∃ v, vs[i]? = some v ∧ Rel K κ ι H x v
  | _, _, _, _, .nil, e => by simp at e
  | _, _, 0, _, .cons h _, e => by simp at e; subst e; exact ⟨_, rfl, h⟩
  | _, _, i + 1, _, .cons _ r, e => by
    obtain ⟨v, e1, r1⟩ := RelL.get (i := i) r (by simpa using e)
    exact ⟨v, by simpa using e1, r1⟩
theorem RelL.get' : ∀ {xs : List AV} {vs : List V} {i : Nat} {v : V}, RelL K κ ι H xs vs → vs[i]? = some v → ∃ x, xs[i]? = some x ∧ Rel K κ ι H x v
  | _, _, _, _, .nil, e => by simp at e
  | _, _, 0, _, .cons h _, e => by simp at e; subst e; exact ⟨_, rfl, h⟩
  | _, _, i + 1, _, .cons _ r, e => by
    obtain ⟨v, e1, r1⟩ := RelL.get' (i := i) r (by simpa using e)
    exact ⟨v, by simpa using e1, r1⟩
theorem RelL.append : ∀ {xs ys : List AV} {vs ws : List V}, RelL K κ ι H xs vs → RelL K κ ι H ys ws → RelL K κ ι H (xs ++ ys) (vs ++ ws)
  | _, _, _, _, .nil, s => s
  | _, _, _, _, .cons h r, s => .cons h (RelL.append r s)
theorem RelL.set {x : AV} {v : V} (h : Rel K κ ι H x v) : ∀ {xs : List AV} {vs : List V} (i : Nat), RelL K κ ι H xs vs → RelL K κ ι H (xs.set i x) (vs.set i v)
  | _, _, _, .nil => .nil
  | _, _, 0, .cons _ r => .cons h r
  | _, _, i + 1, .cons q r => .cons q (RelL.set h i r)
theorem RelL.take : ∀ {xs : List AV} {vs : List V} (n : Nat), RelL K κ ι H xs vs → RelL K κ ι H (xs.take n) (vs.take n)
  | _, _, 0, _ => .nil
  | _, _, _ + 1, .nil => .nil
  | _, _, n + 1, .cons h r => .cons h (RelL.take n r)
theorem RelL.drop : ∀ {xs : List AV} {vs : List V} (n : Nat), RelL K κ ι H xs vs → RelL K κ ι H (xs.drop n) (vs.drop n)
  | _, _, 0, r => r
  | _, _, _ + 1, .nil => .nil
  | _, _, n + 1, .cons _ r => RelL.drop n r
theorem RelL.reverse : ∀ {xs : List AV} {vs : List V}, RelL K κ ι H xs vs → RelL K κ ι H xs.reverse vs.reverse
  | _, _, .nil => .nil
  | _, _, .cons h r => by
    rw [List.reverse_cons, List.reverse_cons]
    exact (RelL.reverse r).append (.cons h .nil)
theorem RelL.ints : ∀ (ns : List Int), RelL K κ ι H (ns.map AV.int) (ns.map V.int)
  | [] => .nil
  | n :: ns => .cons (.int n) (RelL.ints ns)
theorem ExcR.mono (p : ι <+: ι') (m : HW H H') {oa : Obj} : ∀ {v : Option AV}, ExcR K κ ι H oa v → ExcR K κ ι' H' oa v
  | none, h => h
  | some v, ⟨d, od, x, h1, h2, h3, h4⟩ => ⟨d, od, x, h1, m.frz _ _ _ h2, h3, h4.monoW p m⟩
theorem ObjR.mono (p : ι <+: ι') (m : HW H H') {a : Addr} {o : AO} (e : ∀ u, H a = some u → H' a = some u) (r : ObjR K κ ι H a o) : ObjR K κ ι' H' a o := by
  cases o with
  | lst xs => obtain ⟨vs, h, q⟩ := r; exact ⟨vs, e _ h, q.monoW p m⟩
  | dct kvs => obtain ⟨vs, h, q⟩ := r; exact ⟨vs, e _ h, q.mono p m⟩
  | ins c fs => obtain ⟨dx, vs, h, q⟩ := r; exact ⟨dx, vs, e _ h, q.mono p m⟩
  | exc c v => obtain ⟨oa, h1, h2, h3, h4, h5⟩ := r; exact ⟨oa, m.frz _ _ _ h1, h2, h3, h4.mono p m, h5⟩
  | dead => trivial

theorem SR.new {μ : Store} {a : Addr} {o : HO} (sr : SR K κ ι μ H) (h : H a = none) : SR K κ ι μ (upd H a o) :=
  ⟨sr.len, sr.nd, fun b hb => by
    by_cases z : b = a
    · subst z; exact absurd h (sr.on b hb)
    · rw [upd_ne z]; exact sr.on b hb, fun b hb => by
    by_cases z : b = a
    · subst z; exact absurd h (sr.on b hb)
    · rw [upd_ne z]; exact sr.ne b hb, tabs_wr sr.tabs (by rw [h]; trivial), fun n q b h1 h2 => (sr.obj n q b h1 h2).mono (List.prefix_refl _) (HM.fresh (ι := ι) h).w fun u e => by rw [upd_ne (ne_of_none e h)]; exact e⟩

theorem SR.alloc {μ : Store} {a : Addr} {o : AO} (sr : SR K κ ι μ H) (h : ObjR K κ ι H a o) (hn : a ∉ ι) (hs : H a ≠ none) (he : NoE (H a)) : SR K κ (ι ++ [a]) (μ ++ [o]) H := by
  have pre : ι <+: ι ++ [a] := List.prefix_append _ _
  refine ⟨by simp [sr.len], List.nodup_append.mpr ⟨sr.nd, by simp, fun x hx y hy => ?_⟩, fun b hb => ?_, fun b hb => (List.mem_append.mp hb).elim (sr.ne b) fun z => by rw [show b = a by simpa using z]; exact he, sr.tabs, fun n q b h1 h2 => ?_⟩
  · have e : y = a := by simpa using hy
    subst e
    exact fun z => hn (z ▸ hx)
  · rcases List.mem_append.mp hb with hb | hb
    · exact sr.on b hb
    · have z : b = a := by simpa using hb
      subst z
      exact hs
  · by_cases hl : n < μ.length
    · rw [List.getElem?_append_left hl] at h1
      rw [List.getElem?_append_left (by rw [sr.len]; exact hl)] at h2
      exact (sr.obj n q b h1 h2).mono pre (HW.refl _) fun _ e => e
    · have hn2 : n = μ.length := by
        have := (List.getElem?_eq_some_iff.mp h1).1
        simp at this
        omega
      subst hn2
      have e1 : o = q := by simpa using h1
      have e2 : a = b := by
        rw [← sr.len] at h2
        simpa using h2
      subst e1 e2
      exact h.mono pre (HW.refl _) fun _ e => e

theorem SR.write {μ : Store} {n : Nat} {a : Addr} {o : AO} {u : HO} (sr : SR K κ ι μ H) (e : ι[n]? = some a) (mu : Mut (H a)) (h : ObjR K κ ι (upd H a u) a o) (hu : NoE (some u) := by trivial) : SR K κ ι (μ.set n o) (upd H a u) := by
  refine ⟨by simp [sr.len], sr.nd, fun b hb => ?_, fun b hb => ?_, tabs_wr sr.tabs (sr.ne a (List.mem_of_getElem? e)), fun m q b h1 h2 => ?_⟩
  rotate_left
  · by_cases z : b = a
    · subst z; rw [upd_same]; exact hu
    · rw [upd_ne z]; exact sr.ne b hb
  rotate_left
  · by_cases z : b = a
    · subst z; rw [upd_same]; simp
    · rw [upd_ne z]; exact sr.on b hb
  by_cases hm : m = n
  · subst hm
    have hl : m < μ.length := by rw [← sr.len]; exact (List.getElem?_eq_some_iff.mp e).1
    rw [List.getElem?_set_self hl] at h1
    rw [e] at h2
    cases h1
    cases h2
    exact h
  · rw [List.getElem?_set_ne (Ne.symm hm)] at h1
    refine (sr.obj m q b h1 h2).mono (List.prefix_refl _) (HM.wr mu (List.mem_of_getElem? e)).w fun v hv => ?_
    rw [upd_ne]
    · exact hv
    · intro z
      subst z
      exact hm (L2.nd_ix sr.nd h2 e)
end


section
variable (K : PySem.W.Frag) (κ : Kap)
def PG {α : Type} (W : WX) (σ : St) (ι : List Addr) (H : Hp) (C : α → List Addr → Hp → Prop) : Res α → Prop
  | .ok v μ' => ∀ (ι' : List Addr) (H' : Hp), ι <+: ι' → HM ι H ι' H' → SR K κ ι' μ' H' → C v ι' H'
  | .ex c p μ' => ∀ (ι' : List Addr) (H' : Hp) (d : Option Addr), ι <+: ι' → HM ι H ι' H' → SR K κ ι' μ' H' → ExR K κ ι' H' c d p → W (.ref (κ c)) d σ H'
  | .bad => False
abbrev CV (Q : VK) : AV → List Addr → Hp → Prop := fun v ι' H' => ∀ x, Rel K κ ι' H' v x → Q x H'
abbrev CB (Q : Bool → Hp → Prop) : Bool → List Addr → Hp → Prop := fun b _ H' => Q b H'
abbrev CL (Q : List V → Hp → Prop) : List AV → List Addr → Hp → Prop := fun vs ι' H' => ∀ xs, RelL K κ ι' H' vs xs → Q xs H'

abbrev CN (H : Hp) (Q : VK) : List AV → List Addr → Hp → Prop := fun vs ι' H' => ∀ (a : Addr) (xs : List V), RelL K κ ι' H' vs xs → H' a = some (.lst xs) → a ∉ ι' → H a = none → a ≠ sysModules → Q (.ref a) H'
def PO' (W : WX) (ι : List Addr) (H : Hp) (D : Ends) : Out → Prop
  | .nx ρ' μ' => ∀ (ι' : List Addr) (H' : Hp) (σ' : St), ι <+: ι' → HM ι H ι' H' → SR K κ ι' μ' H' → RelS K κ ι' H' ρ' σ' → D.nx σ' H'
  | .rt v μ' => ∀ (ι' : List Addr) (H' : Hp) (x : V), ι <+: ι' → HM ι H ι' H' → SR K κ ι' μ' H' → Rel K κ ι' H' v x → D.rt x H'
  | .bk ρ' μ' => ∀ (ι' : List Addr) (H' : Hp) (σ' : St), ι <+: ι' → HM ι H ι' H' → SR K κ ι' μ' H' → RelS K κ ι' H' ρ' σ' → D.bk σ' H'
  | .ct ρ' μ' => ∀ (ι' : List Addr) (H' : Hp) (σ' : St), ι <+: ι' → HM ι H ι' H' → SR K κ ι' μ' H' → RelS K κ ι' H' ρ' σ' → D.ct σ' H'
  | .ex c p ρ' μ' => ∀ (ι' : List Addr) (H' : Hp) (σ' : St) (d : Option Addr), ι <+: ι' → HM ι H ι' H' → SR K κ ι' μ' H' → RelS K κ ι' H' ρ' σ' → ExR K κ ι' H' c d p → W (.ref (κ c)) d σ' H'
  | .bad => False
variable {K κ}
variable {W : WX} {σ : St} {ι ι1 : List Addr} {H H1 : Hp}
theorem PG.mono {α : Type} {C : α → List Addr → Hp → Prop} {r : Res α} (p : ι <+: ι1) (m : HM ι H ι1 H1) (h : PG K κ W σ ι H C r) : PG K κ W σ ι1 H1 C r := by
  cases r with
  | ok v μ => exact fun ι' H' q n => h ι' H' (p.trans q) (m.trans n)
  | ex c v μ => exact fun ι' H' x q n => h ι' H' x (p.trans q) (m.trans n)
  | bad => exact h

theorem PG.bind {α β : Type} {C : β → List Addr → Hp → Prop} {C' : α → List Addr → Hp → Prop} {r : Res α} {f : α → Store → Res β} (h : PG K κ W σ ι H C (r.bind f))
    (k : ∀ (a : α) (μ1 : Store) (ι1 : List Addr) (H1 : Hp), ι <+: ι1 → HM ι H ι1 H1 → SR K κ ι1 μ1 H1 → PG K κ W σ ι1 H1 C (f a μ1) → C' a ι1 H1) : PG K κ W σ ι H C' r := by
  cases r with
  | ok v μ => exact fun ι' H' q n s => k v μ ι' H' q n s (PG.mono q n h)
  | ex c v μ => exact h
  | bad => exact h

theorem PG.bind0 {α β : Type} {C : β → List Addr → Hp → Prop} {C' : α → List Addr → Hp → Prop} {r : Res α} {f : α → Store → Res β} (h : PG K κ W σ ι H C (r.bind f))
    (k : ∀ (a : α) (μ1 : Store) (ι1 : List Addr) (H1 : Hp), ι <+: ι1 → HM ι H ι1 H1 → SR K κ ι1 μ1 H1 → PG K κ W σ ι H C (f a μ1) → C' a ι1 H1) : PG K κ W σ ι H C' r := by
  cases r with
  | ok v μ => exact fun ι' H' q n s => k v μ ι' H' q n s h
  | ex c v μ => exact h
  | bad => exact h
theorem PG.bindF {α β : Type} {ι₀ : List Addr} {H₀ : Hp} {C : β → List Addr → Hp → Prop} {C' : α → List Addr → Hp → Prop} {r : Res α} {f : α → Store → Res β} (m₀ : HM ι H ι₀ H₀) (h : PG K κ W σ ι H C (r.bind f))
    (k : ∀ (a : α) (μ1 : Store) (ι1 : List Addr) (H1 : Hp), ι₀ <+: ι1 → HM ι₀ H₀ ι1 H1 → SR K κ ι1 μ1 H1 → PG K κ W σ ι H C (f a μ1) → C' a ι1 H1) : PG K κ W σ ι₀ H₀ C' r := by
  cases r with
  | ok v μ => exact fun ι' H' q n s => k v μ ι' H' q n s h
  | ex c v μ => exact PG.mono (r := Res.ex c v μ) (C := C') m₀.pre m₀ h
  | bad => exact h
theorem PO'.mono {D : Ends} {r : Out} (p : ι <+: ι1) (m : HM ι H ι1 H1) (h : PO' K κ W ι H D r) : PO' K κ W ι1 H1 D r := by
  cases r with
  | nx ρ μ => exact fun ι' H' x q n => h ι' H' x (p.trans q) (m.trans n)
  | rt v μ => exact fun ι' H' x q n => h ι' H' x (p.trans q) (m.trans n)
  | bk ρ μ => exact fun ι' H' x q n => h ι' H' x (p.trans q) (m.trans n)
  | ct ρ μ => exact fun ι' H' x q n => h ι' H' x (p.trans q) (m.trans n)
  | ex c v ρ μ => exact fun ι' H' x d q n => h ι' H' x d (p.trans q) (m.trans n)
  | bad => exact h
theorem PO'.bind {α : Type} {D : Ends} {ρ : Loc} {C' : α → List Addr → Hp → Prop} {r : Res α} {f : α → Store → Out} (rs : RelS K κ ι H ρ σ) (h : PO' K κ W ι H D (r.out ρ f))
    (k : ∀ (a : α) (μ1 : Store) (ι1 : List Addr) (H1 : Hp), ι <+: ι1 → HM ι H ι1 H1 → SR K κ ι1 μ1 H1 → PO' K κ W ι1 H1 D (f a μ1) → C' a ι1 H1) : PG K κ W σ ι H C' r := by
  cases r with
  | ok v μ => exact fun ι' H' q n s => k v μ ι' H' q n s (PO'.mono q n h)
  | ex c v μ => exact fun ι' H' d q n s e => h ι' H' σ d q n s (rs.mono q n) e
  | bad => exact h
end


section
variable (K : PySem.W.Frag) (κ : Kap) (W : WX)
def ImE (t : TE) (r : AE) : Prop := ∀ (σ : St) (H : Hp) (Q : VK) (ι : List Addr) (ρ : Loc) (μ : Store), SR K κ ι μ H → RelS K κ ι H ρ σ → PG K κ W σ ι H (CV K κ Q) (r ρ μ) → t σ H Q
def ImT (t : TT) (r : AT) : Prop := ∀ (σ : St) (H : Hp) (Q : Bool → Hp → Prop) (ι : List Addr) (ρ : Loc) (μ : Store), SR K κ ι μ H → RelS K κ ι H ρ σ → PG K κ W σ ι H (CB Q) (r ρ μ) → t σ H Q
def ImA (t : TA) (r : AA) : Prop := ∀ (σ : St) (H : Hp) (Q : List V → Hp → Prop) (ι : List Addr) (ρ : Loc) (μ : Store), SR K κ ι μ H → RelS K κ ι H ρ σ → PG K κ W σ ι H (CL K κ Q) (r ρ μ) → t σ H Q
def ImN (t : TE) (r : AA) : Prop := ∀ (σ : St) (H : Hp) (Q : VK) (ι : List Addr) (ρ : Loc) (μ : Store), SR K κ ι μ H → RelS K κ ι H ρ σ → PG K κ W σ ι H (CN K κ H Q) (r ρ μ) → t σ H Q
def ImS (t : TS) (r : AS) : Prop := ∀ (D : Ends) (σ : St) (H : Hp) (ι : List Addr) (ρ : Loc) (μ : Store), SR K κ ι μ H → RelS K κ ι H ρ σ → PO' K κ W ι H D (r ρ μ) → t D σ H
end
def DE (κ : Kap) (X : Cx) (e : Expr) (r : AE) : Prop := ∀ W : WX, Takes X W → ∃ t, PE X e t ∧ ImE X.K κ W t r
def DT (κ : Kap) (X : Cx) (e : Expr) (r : AT) : Prop := ∀ W : WX, Takes X W → ∃ t, PT X e t ∧ ImT X.K κ W t r
def DA (κ : Kap) (X : Cx) (es : List Expr) (r : AA) : Prop := ∀ W : WX, Takes X W → ∃ t, PA X es t ∧ ImA X.K κ W t r
def DN (κ : Kap) (X : Cx) (e : Expr) (r : AA) : Prop := ∀ W : WX, Takes X W → ∃ t, PE X e t ∧ ImN X.K κ W t r
def DS (κ : Kap) (X : Cx) (s : Stmt) (r : AS) : Prop := ∀ W : WX, Takes X W → ∃ t, PS X s t ∧ ImS X.K κ W t r
def DSs (κ : Kap) (X : Cx) (s : List Stmt) (r : AS) : Prop := ∀ W : WX, Takes X W → ∃ t, PSs X s t ∧ ImS X.K κ W t r

structure Cl (X : Cx) (k : Nat) : Prop where
  calm : X.calm = true
  nd : X.N.Nodup
  room : Room k X.A
  gd : X.A.guards = some []
  sm : ∃ o, X.base.get? sysModules = some o
end Lr


namespace Lr
open PySem PySem.Spec L2
open PyProof.Rows hiding St


def eVar (i : Nat) : AE := fun ρ μ => match ρ[i]? with
  | some (some v) => .ok v μ
  | _ => .bad
def eC (v : AV) : AE := fun _ μ => .ok v μ
section
variable {κ : Kap} {X : Cx}
theorem DE.var (i : Nat) {x : Str} {pos : Pos} (hN : X.N[i]? = some x := by rfl) (hv : Vis X.env.scope x := by first | exact Or.inl rfl | exact Or.inr (Or.inl rfl) | exact Or.inr (Or.inr rfl)) (hd : (x == ("__debug__" : Str)) = false := by decide)
    (hcd : (x == ("__classdict__" : Str)) = false := by decide) : DE κ X (.Name x pos) (eVar i) := fun W _ => by
  refine ⟨tVar i, pe_var hN hv hd hcd, fun σ H Q ι ρ μ sr rs h => ?_⟩
  unfold eVar at h
  split at h
  · rename_i v e
    obtain ⟨x, e1, r1⟩ := rs.2 i v e
    exact ⟨x, e1, h ι H (List.prefix_refl _) (HM.refl _) sr x r1⟩
  · exact False.elim h
theorem DE.con {e : Expr} {v : AV} {x : V} (h : PE X e (tC x)) (r : ∀ ι H, Rel X.K κ ι H v x) : DE κ X e (eC v) := fun W _ =>
  ⟨tC x, h, fun σ H Q ι ρ μ sr rs h => h ι H (List.prefix_refl _) (HM.refl _) sr x (r ι H)⟩
theorem DE.int {i : Int} {j pos} : DE κ X (.Constant (.int i) j pos) (eC (.int i)) := .con pe_int fun _ _ => .int i
theorem DE.bl {b : Bool} {j pos} : DE κ X (.Constant (.bool b) j pos) (eC (.bl b)) := .con pe_bl fun _ _ => .bl b
theorem DE.non {j pos} : DE κ X (.Constant .none j pos) (eC .non) := .con pe_non fun _ _ => .non
theorem DE.str {x : Str} {j pos} : DE κ X (.Constant (.str x) j pos) (eC (.str x)) := .con pe_str fun _ _ => .str x

theorem DE.gint {x : Str} {i : Int} {t : Tok} {pos : Pos} (hg : Gl X x) (hm : X.mg x = some (.int i t)) (hd : (x == ("__debug__" : Str)) = false := by decide) : DE κ X (.Name x pos) (eC (.int i)) := .con (pe_glob (v := .int i) hg hm ⟨t, rfl⟩ hd) fun _ _ => .int i
theorem DE.gstr {x y : Str} {t : Tok} {pos : Pos} (hg : Gl X x) (hm : X.mg x = some (.str y t)) (hd : (x == ("__debug__" : Str)) = false := by decide) : DE κ X (.Name x pos) (eC (.str y)) := .con (pe_glob (v := .str y) hg hm ⟨t, rfl⟩ hd) fun _ _ => .str y
end


def aNil : AA := fun _ μ => .ok [] μ
def aCons (a : AE) (r : AA) : AA := fun ρ μ => (a ρ μ).bind fun x μ1 => (r ρ μ1).bind fun xs μ2 => .ok (x :: xs) μ2
def eTup (r : AA) : AE := fun ρ μ => (r ρ μ).bind fun xs μ1 => if xs.length ≤ 16777216 then .ok (.tup xs) μ1 else .bad
def aLst (r : AA) : AA := fun ρ μ => (r ρ μ).bind fun xs μ1 => if xs.length ≤ 16777216 then .ok xs μ1 else .bad
section
variable {κ : Kap} {X : Cx} {e : Expr} {es : List Expr} {r : AE} {rs : AA} {pos : Pos}
theorem DA.nil : DA κ X [] aNil := fun W _ => ⟨tNil, pa_nil, fun σ H Q ι ρ μ sr rs h => h ι H (List.prefix_refl _) (HM.refl _) sr [] .nil⟩
theorem DA.cons (ha : DE κ X e r) (hr : DA κ X es rs) (hs : starEach (e :: es) X.env = (false, eval e X.env) :: starEach es X.env := by rfl) : DA κ X (e :: es) (aCons r rs) := fun W tk => by
  obtain ⟨t, p, i⟩ := ha W tk
  obtain ⟨u, q, j⟩ := hr W tk
  refine ⟨tCons t u, pa_cons p q hs, fun σ H Q ι ρ μ sr rl h => ?_⟩
  refine i σ H _ ι ρ μ sr rl (PG.bind h fun x μ1 ι1 H1 p1 m1 sr1 h1 v rv => ?_)
  refine j σ H1 _ ι1 ρ μ1 sr1 (rl.mono p1 m1) (PG.bind h1 fun xs μ2 ι2 H2 p2 m2 sr2 h2 vs rvs => ?_)
  exact h2 ι2 H2 (List.prefix_refl _) (HM.refl _) sr2 _ (.cons (rv.mono p2 m2) rvs)
theorem line16 : sizeLine = 16777216 := sizeLine_eq

theorem DE.tup {x1} (h : DA κ X es rs) : DE κ X (.Tuple es x1 pos) (eTup rs) := fun W tk => by
  obtain ⟨t, p, i⟩ := h W tk
  refine ⟨tTup t, pe_tup p, fun σ H Q ι ρ μ sr rl h => ?_⟩
  refine i σ H _ ι ρ μ sr rl (PG.bind h fun xs μ1 ι1 H1 p1 m1 sr1 h1 vs rv => ?_)
  by_cases hz : xs.length ≤ 16777216
  · rw [if_pos hz] at h1
    refine ⟨by rw [line16, ← rv.length]; exact hz, fun a hn => ?_⟩
    exact h1 ι1 _ (List.prefix_refl _) (HM.fresh hn) (sr1.new hn) _ (.tup (.inl (.inl upd_same)) (rv.mono (List.prefix_refl _) (HM.fresh hn)))
  · rw [if_neg hz] at h1
    exact False.elim h1

theorem SR.notin {K : PySem.W.Frag} {ι : List Addr} {μ : Store} {H : Hp} {a : Addr} (sr : SR K κ ι μ H) (h : H a = none) : a ∉ ι := fun z => sr.on a z h

theorem low {k : Nat} {e : Expr} {t : TE} (c : Cl X k) (h : PE X e t) : PE X e (fun σ H Q => t σ H fun x H1 => (∀ p u, H1 p = some u → p ≠ sysModules) → Q x H1) := by
  refine ⟨fun pins s σ H Q I hw => ?_⟩
  refine thn (h.run pins s σ H _ I hw) fun v s1 ⟨x, H1, I1, r1, q1⟩ => ⟨x, H1, I1, r1, q1 fun p u hp z => ?_⟩
  subst z
  obtain ⟨o, ho⟩ := c.sm
  have := (I1.bs _ o ho).2
  rw [hp] at this
  cases this

theorem DN.mk {k : Nat} {e : Expr} {r : AA} (c : Cl X k) (h : ∀ W, Takes X W → ∃ t, PE X e t ∧ ∀ σ H Q ι ρ μ, SR X.K κ ι μ H → RelS X.K κ ι H ρ σ →
    PG X.K κ W σ ι H (fun vs ι' H' => ∀ (a : Addr) (xs : List V), RelL X.K κ ι' H' vs xs → H' a = some (.lst xs) → a ∉ ι' → H a = none → Q (.ref a) H') (r ρ μ) → t σ H Q) : DN κ X e r := fun W tk => by
  obtain ⟨t, p, i⟩ := h W tk
  refine ⟨_, low c p, fun σ H Q ι ρ μ sr rl h => ?_⟩
  refine i σ H _ ι ρ μ sr rl ?_
  revert h
  cases r ρ μ with
  | ok v μ1 => exact fun h ι' H' p m s a xs r e hn h0 hlow => h ι' H' p m s a xs r e hn h0 (hlow a _ e)
  | ex c p μ1 => exact id
  | bad => exact id

theorem okNew {K : PySem.W.Frag} {W : WX} {σ : St} {ι ι1 : List Addr} {H H1 : Hp} {Q : VK} {vs : List AV} {xs : List V} {μ μ1 : Store} {q : Addr} (sr : SR K κ ι μ H) (sr1 : SR K κ ι1 μ1 H1) (m1 : HM ι H ι1 H1)
    (h : PG K κ W σ ι H (fun vs ι' H' => ∀ (a : Addr) (xs : List V), RelL K κ ι' H' vs xs → H' a = some (.lst xs) → a ∉ ι' → H a = none → Q (.ref a) H') (.ok vs μ1)) (r : RelL K κ ι1 H1 vs xs) (hn : H1 q = none) : Q (.ref q) (upd H1 q (.lst xs)) := by
  refine h ι1 _ m1.pre (m1.trans (HM.fresh hn)) (sr1.new hn) q xs (r.mono (List.prefix_refl _) (HM.fresh hn)) upd_same (sr1.notin hn) ?_
  cases e : H q with
  | none => rfl
  | some u =>
    by_cases z : q ∈ ι
    · exact absurd hn (sr1.on q (m1.pre.subset z))
    · exact absurd hn (m1.live z e)
theorem DN.lst {k : Nat} (c : Cl X k) (h : DA κ X es rs) : DN κ X (.List es pos) (aLst rs) := DN.mk c fun W tk => by
  obtain ⟨t, p, i⟩ := h W tk
  refine ⟨tLst t, pe_lst p, fun σ H Q ι ρ μ sr rl h => ?_⟩
  refine i σ H _ ι ρ μ sr rl (PG.bind0 h fun xs μ1 ι1 H1 p1 m1 sr1 h1 vs rv => ?_)
  by_cases hz : xs.length ≤ 16777216
  · rw [if_pos hz] at h1
    refine ⟨by rw [line16, ← rv.length]; exact hz, fun a hn => ?_⟩
    exact okNew sr sr1 m1 h1 rv hn
  · rw [if_neg hz] at h1
    exact False.elim h1
theorem HM.more {ι ι1 : List Addr} {H H1 : Hp} {a : Addr} (m : HM ι H ι1 H1) (h : H a = none) : HM ι H (ι1 ++ [a]) H1 :=
  ⟨m.pre.trans (List.prefix_append _ _), m.tup, m.frz, m.oth', fun b hb n => by
    rcases List.mem_append.mp hb with hb | hb
    · exact m.new b hb n
    · have e : b = a := by simpa using hb
      rw [e]
      exact h, m.tb⟩

def eNew (r : AA) : AE := fun ρ μ => (r ρ μ).bind fun xs μ1 => .ok (.loc μ1.length) (μ1 ++ [.lst xs])
theorem DN.new {r : AA} (h : DN κ X e r) : DE κ X e (eNew r) := fun W tk => by
  obtain ⟨t, p, i⟩ := h W tk
  refine ⟨t, p, fun σ H Q ι ρ μ sr rl h => ?_⟩
  refine i σ H _ ι ρ μ sr rl (PG.bind0 h fun xs μ1 ι1 H1 p1 m1 sr1 h1 a vs rv ea hn h0 hs => ?_)
  have h2 : SR X.K κ (ι1 ++ [a]) (μ1 ++ [.lst xs]) H1 := sr1.alloc ⟨vs, ea, rv⟩ hn (by rw [ea]; simp) (by rw [ea]; trivial)
  refine h1 (ι1 ++ [a]) H1 (p1.trans (List.prefix_append _ _)) (m1.more h0) h2 _ (.loc ?_)
  rw [← sr1.len]
  simp

def tFz (t : TE) : TE := fun σ H Q => t σ H fun x H1 => ∃ p vs, x = .ref p ∧ H1 p = some (.lst vs) ∧ ∀ o, Q x (upd H1 p (.frz o (.lst vs)))
theorem inv_frz {pins : List (Addr × Obj)} {σ : St} {H : Hp} {s : Shared} {p : Addr} {vs : List V} (I : Inv X pins σ H s) (h : H p = some (.lst vs)) : ∃ o, Inv X pins σ (upd H p (.frz o (.lst vs))) s := by
  have hk := I.hok p _ h
  obtain ⟨hz, its, n, r, e⟩ := id hk
  have ne : ∀ {b : Addr}, H b = none → b ≠ p := fun q z => by subst z; rw [h] at q; cases q
  have nt : ∀ {b : Addr} {u : HO}, H b = some u → (∀ xs, u ≠ .lst xs) → b ≠ p := fun q q2 z => by subst z; rw [h] at q; cases q; exact q2 _ rfl
  refine ⟨_, I.un (h' := s.heap) (t' := s.toks) (H' := upd H p (.frz { cls := .type "list", data := .seq its.toArray n } (.lst vs))) ⟨fun b o q _ _ _ => q, fun b o q _ _ _ => ⟨o.slots, q⟩, fun b o q n _ => by rw [upd_ne (ne n)]; exact n, fun b o q _ => ⟨o, q⟩, fun b xs q => by rw [upd_ne (nt q (fun _ => by simp))]; exact q, fun b o u q => by rw [upd_ne (nt q (fun _ => by simp))]; exact q, fun b ps q => ⟨#[], by rw [upd_ne (nt q (fun _ => by simp)), q]; simp⟩⟩ fun b u q => ?_⟩
  by_cases hb : b = p
  · subst hb
    rw [upd_same] at q
    cases q
    exact ⟨e, hz, its, n, r, e⟩
  · rw [upd_ne hb] at q
    exact (I.hok b u q).stay (fun c v _ z => z) (fun c z => by rw [upd_ne (nt z (fun _ => by simp))]; exact z) fun c xs z => by rw [upd_ne (nt z (fun _ => by simp))]; exact z
theorem pe_fz {e : Expr} {t : TE} (h : PE X e t) : PE X e (tFz t) := by
  refine ⟨fun pins s σ H Q I hw => ?_⟩
  refine thn (h.run pins s σ H _ I hw) fun v s1 ⟨x, H1, I1, r1, p, vs, ex, ep, q⟩ => ?_
  obtain ⟨o, I2⟩ := inv_frz I1 ep
  exact ⟨x, _, I2, r1, q o⟩

theorem HM.mine {ι ι1 : List Addr} {H H1 : Hp} {p : Addr} {u : HO} (m : HM ι H ι1 H1) (h : Mut (H1 p)) (h0 : H p = none ∨ p ∈ ι) : HM ι H ι1 (upd H1 p u) :=
  ⟨m.pre, fun b xs e => by rw [upd_ne (fun z => by subst z; rw [m.tup _ _ e] at h; exact h)]; exact m.tup _ _ e, fun b o v e => by rw [upd_ne (fun z => by subst z; rw [m.frz _ _ _ e] at h; exact h)]; exact m.frz _ _ _ e,
    fun b v n e hv => by
      rw [upd_ne (fun z => by
        subst z
        rcases h0 with h0 | h0
        · rw [e] at h0; cases h0
        · exact n h0)]
      exact m.oth' b v n e hv, m.new, fun b ps e => let ⟨qs, z⟩ := m.tb b ps e; ⟨qs, by rw [upd_ne (fun y => by subst y; rw [z] at h; exact h)]; exact z⟩⟩

def eDat (r : AA) : AE := fun ρ μ => (r ρ μ).bind fun xs μ1 => .ok (.lst xs) μ1
theorem SR.other {K : PySem.W.Frag} {ι : List Addr} {μ : Store} {H : Hp} {a : Addr} {u : HO} (sr : SR K κ ι μ H) (hm : HW H (upd H a u)) (hn : a ∉ ι) (he : NoE (H a)) : SR K κ ι μ (upd H a u) :=
  ⟨sr.len, sr.nd, fun b hb => by rw [upd_ne (show b ≠ a from fun z => by subst z; exact hn hb)]; exact sr.on b hb, fun b hb => by rw [upd_ne (show b ≠ a from fun z => by subst z; exact hn hb)]; exact sr.ne b hb, tabs_wr sr.tabs he, fun n q b h1 h2 => (sr.obj n q b h1 h2).mono (List.prefix_refl _) hm fun v e => by
    rw [upd_ne (show b ≠ a from fun z => by subst z; exact hn (List.mem_of_getElem? h2))]; exact e⟩
theorem DN.dat {r : AA} (h : DN κ X e r) : DE κ X e (eDat r) := fun W tk => by
  obtain ⟨t, p, i⟩ := h W tk
  refine ⟨_, pe_fz p, fun σ H Q ι ρ μ sr rl h => ?_⟩
  refine i σ H _ ι ρ μ sr rl (PG.bind0 h fun xs μ1 ι1 H1 p1 m1 sr1 h1 a vs rv ea hn h0 hs => ?_)
  refine ⟨a, vs, rfl, ea, fun o => ?_⟩
  have mu : Mut (H1 a) := by rw [ea]; trivial
  have w : HW H1 (upd H1 a (.frz o (.lst vs))) := (HM.mine (HM.refl (ι := [a]) H1) mu (.inr (by simp))).w
  exact h1 ι1 _ p1 (m1.mine mu (.inl h0)) (sr1.other w hn (by rw [ea]; trivial)) _ (.lst ⟨o, upd_same, hs⟩ (rv.monoW (List.prefix_refl _) w))

def eFrz (r : AE) : AE := fun ρ μ => (r ρ μ).bind fun v μ1 => match v with
  | .loc n => match μ1[n]? with
    | some (.lst xs) => .ok (.lst xs) (μ1.set n .dead)
    | _ => .bad
  | _ => .bad
theorem DE.frz {k : Nat} {r : AE} (c : Cl X k) (h : DE κ X e r) : DE κ X e (eFrz r) := fun W tk => by
  obtain ⟨t, p, i⟩ := h W tk
  refine ⟨_, pe_fz (low c p), fun σ H Q ι ρ μ sr rl h => ?_⟩
  refine i σ H _ ι ρ μ sr rl (PG.bind h fun v μ1 ι1 H1 p1 m1 sr1 h1 x rx hl => ?_)
  cases v with
  | loc n =>
    cases rx with
    | loc e1 =>
      rename_i a
      cases q : μ1[n]? with
      | none => simp only [q] at h1; exact False.elim h1
      | some o =>
        cases o with
        | lst xs =>
          simp only [q] at h1
          obtain ⟨vs, ea, rv⟩ := sr1.obj n _ a q e1
          refine ⟨a, vs, rfl, ea, fun o => ?_⟩
          have m2 : HM ι1 H1 ι1 (upd H1 a (.frz o (.lst vs))) := HM.wr (by rw [ea]; trivial) (List.mem_of_getElem? e1)
          exact h1 ι1 _ (List.prefix_refl _) m2 (sr1.write e1 (by rw [ea]; trivial) trivial) _ (.lst ⟨o, upd_same, hl _ _ ea⟩ (rv.mono (List.prefix_refl _) m2))
        | _ => simp only [q] at h1; exact False.elim h1
  | _ => exact False.elim h1
end
end Lr


set_option maxHeartbeats 4000000
namespace L2
open PySem PySem.Spec PyProof.Rows
theorem tuple_mul1 (l : Addr) (items : Array Value) (n : Nat) (dd : Option Addr) (sl : Array (Option Value)) (u : Tok) :
    Meets (Builtin.«tuple.__mul__» ⟨[.ref l, .int 1 u], []⟩) (fun _ R s => s.heap.get? l = some { cls := .type "tuple", dict := dd, data := .seq items n, slots := sl } ∧ R (.ok (.ret (.ref l))) s) :=
  .of_wp fun prog w A R s h => by
    obtain ⟨hp, g, d, tk, os⟩ := s
    obtain ⟨hl, h⟩ := h
    have f1 := AutoSeq1.idx_int
    wp_walk using wpAny_loadPart' hl
    repeat (first
      | (refine wpAny_ite_true (decide_eq_true (by rw [Bool.or_eq_true]; exact .inr rfl)) ?_; wp_walk using wpAny_loadPart' hl)
      | (refine wpAny_ite_false (decide_eq_false (by decide)) ?_; wp_walk using wpAny_loadPart' hl))
    exact ⟨_, rfl, h⟩
theorem tuple_mul0 (l : Addr) (items : Array Value) (n : Nat) (dd : Option Addr) (sl : Array (Option Value)) (u : Tok) (hi : items.isEmpty = false) :
    Meets (Builtin.«tuple.__mul__» ⟨[.ref l, .int 0 u], []⟩) (fun _ R s => s.heap.get? l = some { cls := .type "tuple", dict := dd, data := .seq items n, slots := sl } ∧
      R (.ok (.ret (Value.ref s.heap.objs.size))) { s with heap := s.heap.push { cls := Value.type "tuple", data := Data.seq #[] }, toks := s.toks }) :=
  .of_wp fun prog w A R s h => by
    obtain ⟨hp, g, d, tk, os⟩ := s
    obtain ⟨hl, h⟩ := h
    have f1 := AutoSeq1.idx_int
    wp_walk using wpAny_loadPart' hl
    repeat (first
      | (refine wpAny_ite_false (decide_eq_false (by rw [hi]; decide)) ?_; wp_walk using wpAny_loadPart' hl)
      | (refine wpAny_ite_true (decide_eq_true (by rfl)) ?_; wp_walk using wpAny_loadPart' hl)
      | (refine wpAny_ite_false (decide_eq_false (by decide)) ?_; wp_walk using wpAny_loadPart' hl))
    exact ⟨_, rfl, h⟩
theorem op_rep01 {X : Cx} : OpR X (binaryOp .Mult) (fun x y H Q => ∃ l k xs, x = V.ref l ∧ y = V.int k ∧ SqT X.K H l xs ∧ xs ≠ [] ∧ ((k = 1 ∧ Q x H) ∨ (k = 0 ∧ ∀ p, H p = none → Q (.ref p) (upd H p (.tup []))))) := by
  intro pins s σ H x y v u Q I rx ry h
  obtain ⟨l, k, xs, rfl, rfl, hT, hne, q⟩ := h
  cases rx
  obtain ⟨t, rfl⟩ := ry
  obtain ⟨its, r, ⟨⟨cls, dd, data, sl⟩, ho, hc, n, hd⟩, hs⟩ := I.tuple hT
  simp only at hc hd
  subst hc hd
  have hle : its.length = xs.length := r.length.symm
  have hi : its.toArray.isEmpty = false := by
    cases its with
    | nil => exact absurd (List.eq_nil_of_length_eq_zero hle.symm) hne
    | cons a b => rfl
  rcases q with ⟨rfl, q⟩ | ⟨rfl, q⟩
  · refine wpAny_binaryOp_repeat_ref (T := "tuple") (U := "int") (by decide) ⟨_, ho, rfl⟩ (fun s' => typeIs_int s' 1 t) noFill_tuple_mul F.fills_int_mul F.slot_int_rmul repeat_tuple F.slot_int_index.lookup
      (call_meets F.slot_int_rmul (typeIs_int s 1 t) F.entry_int_rmul (F.args_int_rmul_2 _ _) (int_rmul_tuple 1 t l its.toArray n dd sl)
        ⟨ho, rfl, ⟨_, ho, rfl⟩, call_meets F.slot_tuple_mul ⟨_, ho, rfl⟩ F.entry_tuple_mul (F.args_tuple_mul_2 _ _) (tuple_mul1 l its.toArray n dd sl t) ⟨ho, ?_⟩⟩)
    exact ⟨.ref l, H, I, rfl, q⟩
  · refine wpAny_binaryOp_repeat_ref (T := "tuple") (U := "int") (by decide) ⟨_, ho, rfl⟩ (fun s' => typeIs_int s' 0 t) noFill_tuple_mul F.fills_int_mul F.slot_int_rmul repeat_tuple F.slot_int_index.lookup
      (call_meets F.slot_int_rmul (typeIs_int s 0 t) F.entry_int_rmul (F.args_int_rmul_2 _ _) (int_rmul_tuple 0 t l its.toArray n dd sl)
        ⟨ho, rfl, ⟨_, ho, rfl⟩, call_meets F.slot_tuple_mul ⟨_, ho, rfl⟩ F.entry_tuple_mul (F.args_tuple_mul_2 _ _) (tuple_mul0 l its.toArray n dd sl t hi) ⟨ho, ?_⟩⟩)
    refine ⟨.ref s.heap.objs.size, _, I.laid (t' := s.toks) (o := .tup []) (fun b ob q => Heap.get?_push_of_some _ q) (Nat.le_refl _) ?_, rfl, q _ (I.hok.fresh (Nat.le_refl _))⟩
    exact ⟨Nat.zero_le _, [], .nil, IsTup.new _ _⟩
end L2
set_option maxHeartbeats 200000
namespace Lr
open PySem PySem.Spec L2
open PyProof.Rows hiding St

abbrev G2 := AV → AV → Store → Res AV
def rA (K : PySem.W.Frag) (κ : Kap) (W : WX) (g : G2) : R2 := fun x y H Q => ∃ (σ : St) (ι : List Addr) (μ : Store) (a b : AV), SR K κ ι μ H ∧ Rel K κ ι H a x ∧ Rel K κ ι H b y ∧ PG K κ W σ ι H (CV K κ Q) (g a b μ)

def OpA (κ : Kap) (X : Cx) (f : Value → Value → Sem Value) (g : G2) : Prop := ∀ W, Takes X W → OpR X f (rA X.K κ W g)
def eOp (g : G2) (a b : AE) : AE := fun ρ μ => (a ρ μ).bind fun x μ1 => (b ρ μ1).bind fun y μ2 => g x y μ2
section
variable {κ : Kap} {X : Cx} {a b e : Expr} {ra rb r : AE} {pos : Pos} {g : G2}
theorem im_op {K : PySem.W.Frag} {W : WX} {ta tb : TE} (ia : ImE K κ W ta ra) (ib : ImE K κ W tb rb) : ImE K κ W (tOp (rA K κ W g) ta tb) (eOp g ra rb) := fun σ H Q ι ρ μ sr rl h => by
  refine ia σ H _ ι ρ μ sr rl (PG.bind h fun x μ1 ι1 H1 p1 m1 sr1 h1 v rv => ?_)
  refine ib σ H1 _ ι1 ρ μ1 sr1 (rl.mono p1 m1) (PG.bind h1 fun y μ2 ι2 H2 p2 m2 sr2 h2 u ru => ?_)
  exact ⟨σ, ι2, μ2, x, y, sr2, rv.mono p2 m2, ru, h2⟩
theorem DE.op {op : Operator} (ho : OpA κ X (binaryOp op) g) (ha : DE κ X a ra) (hb : DE κ X b rb) : DE κ X (.BinOp a op b pos) (eOp g ra rb) := fun W tk => by
  obtain ⟨ta, pa, ia⟩ := ha W tk
  obtain ⟨tb, pb, ib⟩ := hb W tk
  exact ⟨_, pe_op (ho W tk) pa pb, im_op ia ib⟩
theorem DE.cmp {op : CmpOp} (ho : OpA κ X (compareOp op) g) (ha : DE κ X a ra) (hb : DE κ X b rb) (hm : behindInMarks op b = false := by first | exact nomark _ | rfl) : DE κ X (.Compare a [op] [b] pos) (eOp g ra rb) := fun W tk => by
  obtain ⟨ta, pa, ia⟩ := ha W tk
  obtain ⟨tb, pb, ib⟩ := hb W tk
  exact ⟨_, pe_cmpR (ho W tk) pa pb hm, im_op ia ib⟩
theorem ok1 {K : PySem.W.Frag} {W : WX} {σ : St} {ι : List Addr} {H : Hp} {Q : VK} {v : AV} {x : V} {μ : Store} (sr : SR K κ ι μ H) (h : PG K κ W σ ι H (CV K κ Q) (.ok v μ)) (r : Rel K κ ι H v x) : Q x H :=
  h ι H (List.prefix_refl _) (HM.refl _) sr x r

theorem okT {K : PySem.W.Frag} {W : WX} {σ : St} {ι : List Addr} {H : Hp} {Q : VK} {vs : List AV} {xs : List V} {μ : Store} {p : Addr} (sr : SR K κ ι μ H) (h : PG K κ W σ ι H (CV K κ Q) (.ok (.tup vs) μ)) (r : RelL K κ ι H vs xs) (hn : H p = none) : Q (.ref p) (upd H p (.tup xs)) :=
  h ι _ (List.prefix_refl _) (HM.fresh hn) (sr.new hn) _ (.tup (.inl (.inl upd_same)) (r.mono (List.prefix_refl _) (HM.fresh hn)))


def gAdd : G2 := fun x y μ => match x, y with
  | .int i, .int j => .ok (.int (i + j)) μ
  | .bl b, .int j => .ok (.int ((if b then 1 else 0) + j)) μ
  | .str a, .str b => if a.length + b.length ≤ 16777216 then .ok (.str (a ++ b)) μ else .bad
  | .tup xs, .tup ys => if xs.length + ys.length ≤ 16777216 then .ok (.tup (xs ++ ys)) μ else .bad
  | _, _ => .bad
theorem op_gAdd : OpA κ X (binaryOp .Add) gAdd := fun W tk pins s σ H x y v u Q I rx ry hh => by
  obtain ⟨σ0, ι, μ, a, b, sr, ra, rb, h⟩ := hh
  cases a <;> cases b <;> first | exact False.elim h | skip
  · cases ra; cases rb
    obtain ⟨t, rfl⟩ := ry
    cases rx
    exact IntBool.add_bool_int ⟨.int _, H, I.tok _, ⟨_, rfl⟩, ok1 sr h (.int _)⟩
  · cases ra; cases rb
    exact op_add pins s σ H _ _ v u Q I rx ry ⟨_, _, rfl, rfl, ok1 sr h (.int _)⟩
  · cases ra; cases rb
    rename_i a b
    by_cases hz : a.length + b.length ≤ 16777216
    · simp only [gAdd, if_pos hz] at h
      exact op_add_str pins s σ H _ _ v u Q I rx ry ⟨_, _, rfl, rfl, by rw [line16]; exact hz, ok1 sr h (.str _)⟩
    · simp only [gAdd, if_neg hz] at h
      exact False.elim h
  · rename_i as bs
    cases ra with
    | tup h1 r1 =>
      cases rb with
      | tup h2 r2 =>
        rename_i a1 vs1 a2 vs2
        by_cases hz : as.length + bs.length ≤ 16777216
        · simp only [gAdd, if_pos hz] at h
          refine op_catA pins s σ H _ _ v u Q I rx ry ⟨_, _, _, _, rfl, rfl, h1, h2, by rw [line16, ← r1.length, ← r2.length]; exact hz, fun e => ?_, fun _ e => ?_, fun _ _ p hn => ?_⟩
          · subst e
            cases r1
            exact ok1 sr h (.tup h2 r2)
          · subst e
            cases r2
            rw [List.append_nil] at h
            exact ok1 sr h (.tup h1 r1)
          · exact okT sr h (r1.append r2) hn
        · simp only [gAdd, if_neg hz] at h
          exact False.elim h
def gSub : G2 := fun x y μ => match x, y with
  | .int i, .int j => .ok (.int (i - j)) μ
  | .bl b, .int j => .ok (.int ((if b then 1 else 0) - j)) μ
  | _, _ => .bad
theorem op_gSub : OpA κ X (binaryOp .Sub) gSub := fun W tk pins s σ H x y v u Q I rx ry hh => by
  obtain ⟨σ0, ι, μ, a, b, sr, ra, rb, h⟩ := hh
  cases a <;> cases b <;> first | exact False.elim h | skip
  · cases ra; cases rb
    obtain ⟨t, rfl⟩ := ry
    cases rx
    exact IntBool.sub_bool_int ⟨.int _, H, I.tok _, ⟨_, rfl⟩, ok1 sr h (.int _)⟩
  cases ra; cases rb
  exact op_sub pins s σ H _ _ v u Q I rx ry ⟨_, _, rfl, rfl, ok1 sr h (.int _)⟩
def mulOk (i j : Int) : Bool := decide (i.natAbs < 2 ^ 64) || decide (j.natAbs < 2 ^ 64) || (decide (i.natAbs < 2 ^ 4000) && decide (j.natAbs < 2 ^ 4000))
theorem mulOk_ok {i j : Int} (h : mulOk i j = true) : IntMulOk i j := by
  unfold mulOk at h
  simp only [Bool.or_eq_true, Bool.and_eq_true, decide_eq_true_eq] at h
  rcases h with (h | h) | ⟨h1, h2⟩
  · exact .of_left (intBits_le_64 (by omega) (by omega))
  · exact .of_right (intBits_le_64 (by omega) (by omega))
  · exact (wide_mul h1 h2 (by decide) (by decide) (by decide)).ok
def gMul : G2 := fun x y μ => match x, y with
  | .int i, .int j => if mulOk i j then .ok (.int (i * j)) μ else .bad
  | .tup xs, .int k => if !xs.isEmpty && decide (0 ≤ k) && decide (k ≤ 1000) && decide (xs.length ≤ 1000) then .ok (.tup (List.replicate k.toNat xs).flatten) μ else .bad
  | _, _ => .bad
theorem RelL.rep {K : PySem.W.Frag} {ι : List Addr} {H : Hp} {xs : List AV} {vs : List V} (r : RelL K κ ι H xs vs) : ∀ k : Nat, RelL K κ ι H (List.replicate k xs).flatten (List.replicate k vs).flatten
  | 0 => .nil
  | k + 1 => by
    rw [List.replicate_succ, List.replicate_succ, List.flatten_cons, List.flatten_cons]
    exact r.append (RelL.rep r k)
theorem op_gMul : OpA κ X (binaryOp .Mult) gMul := fun W tk pins s σ H x y v u Q I rx ry hh => by
  obtain ⟨σ0, ι, μ, a, b, sr, ra, rb, h⟩ := hh
  cases a <;> cases b <;> first | exact False.elim h | skip
  · cases ra; cases rb
    rename_i i j
    by_cases hz : mulOk i j = true
    · simp only [gMul, if_pos hz] at h
      obtain ⟨t, rfl⟩ := rx
      obtain ⟨t', rfl⟩ := ry
      exact mul_int ⟨.int _, H, I.tok _, ⟨_, rfl⟩, ok1 sr h (.int _)⟩ (mulOk_ok hz)
    · simp only [gMul, if_neg hz] at h
      exact False.elim h
  · rename_i as k
    cases rb
    cases ra with
    | tup h1 r1 =>
      rename_i a1 vs1
      by_cases hz : (!as.isEmpty && decide (0 ≤ k) && decide (k ≤ 1000) && decide (as.length ≤ 1000)) = true
      · simp only [gMul, if_pos hz] at h
        simp only [Bool.and_eq_true, decide_eq_true_eq, Bool.not_eq_true'] at hz
        obtain ⟨⟨⟨z1, z2⟩, z3⟩, z4⟩ := hz
        have hne : vs1 ≠ [] := fun e => by
          subst e
          cases r1
          cases z1
        by_cases k2 : 2 ≤ k
        · exact op_repT pins s σ H _ _ v u Q I rx ry ⟨_, _, _, rfl, rfl, h1, hne, k2, z3, by rw [← r1.length]; exact z4, fun p hn => okT sr h (r1.rep _) hn⟩
        · refine op_rep01 pins s σ H _ _ v u Q I rx ry ⟨_, _, _, rfl, rfl, h1, hne, ?_⟩
          have hk : k = 1 ∨ k = 0 := by omega
          rcases hk with rfl | rfl
          · refine .inl ⟨rfl, ok1 sr h ?_⟩
            have e1 : (List.replicate (Int.toNat 1) as).flatten = as := by simp
            rw [e1]
            exact .tup h1 r1
          · exact .inr ⟨rfl, fun p hn => okT sr h .nil hn⟩
      · simp only [gMul, if_neg hz] at h
        exact False.elim h
def gDiv : G2 := fun x y μ => match x, y with
  | .int i, .int j => if decide (0 < j) && decide (j.natAbs < 2 ^ 4000) then .ok (.int (i / j)) μ else .bad
  | _, _ => .bad
theorem op_gDiv : OpA κ X (binaryOp .FloorDiv) gDiv := fun W tk pins s σ H x y v u Q I rx ry hh => by
  obtain ⟨σ0, ι, μ, a, b, sr, ra, rb, h⟩ := hh
  cases a <;> cases b <;> first | exact False.elim h | skip
  cases ra; cases rb
  rename_i i j
  by_cases hz : (decide (0 < j) && decide (j.natAbs < 2 ^ 4000)) = true
  · simp only [gDiv, if_pos hz] at h
    simp only [Bool.and_eq_true, decide_eq_true_eq] at hz
    exact op_fdivW pins s σ H _ _ v u Q I rx ry ⟨_, _, rfl, rfl, wide_div hz.1 hz.2 (by decide) (by decide), ok1 sr h (.int _)⟩
  · simp only [gDiv, if_neg hz] at h
    exact False.elim h
def gMod : G2 := fun x y μ => match x, y with
  | .int i, .int j => if decide (0 < j) then .ok (.int (i % j)) μ else .bad
  | _, _ => .bad
theorem op_gMod : OpA κ X (binaryOp .Mod) gMod := fun W tk pins s σ H x y v u Q I rx ry hh => by
  obtain ⟨σ0, ι, μ, a, b, sr, ra, rb, h⟩ := hh
  cases a <;> cases b <;> first | exact False.elim h | skip
  cases ra; cases rb
  rename_i i j
  by_cases hz : decide (0 < j) = true
  · simp only [gMod, if_pos hz] at h
    exact op_mod pins s σ H _ _ v u Q I rx ry ⟨_, _, rfl, rfl, of_decide_eq_true hz, ok1 sr h (.int _)⟩
  · simp only [gMod, if_neg hz] at h
    exact False.elim h
def gPow : G2 := fun x y μ => match x, y with
  | .int i, .int j => if decide (0 ≤ j) && decide (j ≤ 1000) && decide (i.natAbs < 2 ^ 64) then .ok (.int (i ^ j.toNat)) μ else .bad
  | _, _ => .bad
theorem op_gPow : OpA κ X (binaryOp .Pow) gPow := fun W tk pins s σ H x y v u Q I rx ry hh => by
  obtain ⟨σ0, ι, μ, a, b, sr, ra, rb, h⟩ := hh
  cases a <;> cases b <;> first | exact False.elim h | skip
  cases ra; cases rb
  rename_i i j
  by_cases hz : (decide (0 ≤ j) && decide (j ≤ 1000) && decide (i.natAbs < 2 ^ 64)) = true
  · simp only [gPow, if_pos hz] at h
    simp only [Bool.and_eq_true, decide_eq_true_eq] at hz
    exact op_pow pins s σ H _ _ v u Q I rx ry ⟨_, _, rfl, rfl, ⟨hz.1.1, by omega, hz.2⟩, ok1 sr h (.int _)⟩
  · simp only [gPow, if_neg hz] at h
    exact False.elim h

def gLt : G2 := fun x y μ => match x, y with
  | .int i, .int j => .ok (.bl (decide (i < j))) μ
  | _, _ => .bad
def gLe : G2 := fun x y μ => match x, y with
  | .int i, .int j => .ok (.bl (decide (i ≤ j))) μ
  | _, _ => .bad
def gGt : G2 := fun x y μ => match x, y with
  | .int i, .int j => .ok (.bl (decide (j < i))) μ
  | _, _ => .bad
def gGe : G2 := fun x y μ => match x, y with
  | .int i, .int j => .ok (.bl (decide (j ≤ i))) μ
  | _, _ => .bad
theorem op_gLt : OpA κ X (compareOp .Lt) gLt := fun W tk pins s σ H x y v u Q I rx ry hh => by
  obtain ⟨σ0, ι, μ, a, b, sr, ra, rb, h⟩ := hh
  cases a <;> cases b <;> first | exact False.elim h | skip
  cases ra; cases rb
  exact op_lt pins s σ H _ _ v u Q I rx ry ⟨_, _, rfl, rfl, ok1 sr h (.bl _)⟩
theorem op_gLe : OpA κ X (compareOp .LtE) gLe := fun W tk pins s σ H x y v u Q I rx ry hh => by
  obtain ⟨σ0, ι, μ, a, b, sr, ra, rb, h⟩ := hh
  cases a <;> cases b <;> first | exact False.elim h | skip
  cases ra; cases rb
  exact op_le pins s σ H _ _ v u Q I rx ry ⟨_, _, rfl, rfl, ok1 sr h (.bl _)⟩
theorem op_gGt : OpA κ X (compareOp .Gt) gGt := fun W tk pins s σ H x y v u Q I rx ry hh => by
  obtain ⟨σ0, ι, μ, a, b, sr, ra, rb, h⟩ := hh
  cases a <;> cases b <;> first | exact False.elim h | skip
  cases ra; cases rb
  exact op_gt pins s σ H _ _ v u Q I rx ry ⟨_, _, rfl, rfl, ok1 sr h (.bl _)⟩
theorem op_gGe : OpA κ X (compareOp .GtE) gGe := fun W tk pins s σ H x y v u Q I rx ry hh => by
  obtain ⟨σ0, ι, μ, a, b, sr, ra, rb, h⟩ := hh
  cases a <;> cases b <;> first | exact False.elim h | skip
  cases ra; cases rb
  exact op_ge pins s σ H _ _ v u Q I rx ry ⟨_, _, rfl, rfl, ok1 sr h (.bl _)⟩

def isNon : AV → Bool
  | .non => true
  | _ => false
def gIs : G2 := fun x y μ => match y with
  | .non => .ok (.bl (isNon x)) μ
  | _ => .bad
def gIsNot : G2 := fun x y μ => match y with
  | .non => .ok (.bl (!isNon x)) μ
  | _ => .bad
theorem non_rel {K : PySem.W.Frag} {ι : List Addr} {H : Hp} {a : AV} {x : V} (r : Rel K κ ι H a x) : decide (x = .non) = isNon a := by
  cases r <;> rfl
theorem op_gIs : OpA κ X (compareOp .Is) gIs := fun W tk pins s σ H x y v u Q I rx ry hh => by
  obtain ⟨σ0, ι, μ, a, b, sr, ra, rb, h⟩ := hh
  cases b <;> first | exact False.elim h | skip
  cases rb
  exact op_isN pins s σ H _ _ v u Q I rx ry ⟨rfl, by rw [non_rel ra]; exact ok1 sr h (.bl _)⟩
theorem op_gIsNot : OpA κ X (compareOp .IsNot) gIsNot := fun W tk pins s σ H x y v u Q I rx ry hh => by
  obtain ⟨σ0, ι, μ, a, b, sr, ra, rb, h⟩ := hh
  cases b <;> first | exact False.elim h | skip
  cases rb
  exact op_notN pins s σ H _ _ v u Q I rx ry ⟨rfl, by rw [non_rel ra]; exact ok1 sr h (.bl _)⟩
theorem gives_neg_bool (b : Bool) : Gives (Builtin.«int.__neg__» ⟨[.bool b], []⟩) (.int (-(if b = true then (1 : Int) else 0))) := .of_eq rfl
theorem neg_bool {prog : Program} {w : World} {A : Around} {E : Value → Shared → Prop} {s : Shared} {b : Bool} {Q : Value → Shared → Prop} (h : Q (.int (-(if b = true then (1 : Int) else 0)) s.toks) { s with toks := s.toks + 1 }) : wpAny (model prog w) A (unaryOp .USub (.bool b)) Q E s :=
  unaryOp_gives (op := .USub) (T := "bool") rfl rfl F.slot_bool_neg F.entry_int_neg (F.args_int_neg_1 _) (gives_neg_bool b) h
theorem un_negB : UnR X (unaryOp .USub) (fun x H Q => (∃ i, x = .int i ∧ Q (.int (-i)) H) ∨ ∃ b : Bool, x = .bl b ∧ Q (.int (-(if b = true then (1 : Int) else 0))) H) := by
  intro pins s σ H x v Q I rx h
  rcases h with ⟨i, rfl, q⟩ | ⟨b, rfl, q⟩
  · obtain ⟨t, rfl⟩ := rx
    exact neg_int ⟨.int _, H, I.tok _, ⟨_, rfl⟩, q⟩
  · cases rx
    exact neg_bool ⟨.int _, H, I.tok _, ⟨_, rfl⟩, q⟩

def eNeg (a : AE) : AE := fun ρ μ => (a ρ μ).bind fun x μ1 => match x with
  | .int i => .ok (.int (-i)) μ1
  | .bl b => .ok (.int (-(if b then 1 else 0))) μ1
  | _ => .bad
theorem DE.neg (ha : DE κ X a ra) : DE κ X (.UnaryOp .USub a pos) (eNeg ra) := fun W tk => by
  obtain ⟨ta, pa, ia⟩ := ha W tk
  refine ⟨_, pe_un un_negB pa, fun σ H Q ι ρ μ sr rl h => ?_⟩
  refine ia σ H _ ι ρ μ sr rl (PG.bind h fun x μ1 ι1 H1 p1 m1 sr1 h1 v rv => ?_)
  cases x <;> first | exact False.elim h1 | skip
  · cases rv
    exact .inr ⟨_, rfl, ok1 sr1 h1 (.int _)⟩
  · cases rv
    exact .inl ⟨_, rfl, ok1 sr1 h1 (.int _)⟩
end
end Lr


namespace Lr
open PySem PySem.Spec L2
open PyProof.Rows hiding St


mutual
def dep : AV → Nat
  | .tup xs => depL xs + 1
  | .lst xs => depL xs + 1
  | .dct kvs => depD kvs + 1
  | _ => 0
def depL : List AV → Nat
  | [] => 0
  | x :: xs => max (dep x) (depL xs)
def depD : List (AV × AV) → Nat
  | [] => 0
  | (x, y) :: xs => max (max (dep x) (dep y)) (depD xs)
end
mutual
def eqv : AV → AV → Option Bool
  | .non, .non => some true
  | .bl a, .bl b => some (a == b)
  | .bl a, .int j => some ((if a then 1 else 0) == j)
  | .int i, .bl b => some (i == (if b then 1 else 0))
  | .int i, .int j => some (i == j)
  | .str x, .str y => some (x == y)
  | .tup xs, .tup ys => eqvL xs ys
  | .lst xs, .lst ys => if xs.length = ys.length then eqvL xs ys else some false
  | .non, .bl _ => some false | .non, .int _ => some false | .non, .str _ => some false | .non, .tup _ => some false | .non, .lst _ => some false
  | .bl _, .non => some false | .bl _, .str _ => some false | .bl _, .tup _ => some false | .bl _, .lst _ => some false
  | .int _, .non => some false | .int _, .str _ => some false | .int _, .tup _ => some false | .int _, .lst _ => some false
  | .str _, .non => some false | .str _, .bl _ => some false | .str _, .int _ => some false | .str _, .tup _ => some false | .str _, .lst _ => some false
  | .tup _, .non => some false | .tup _, .bl _ => some false | .tup _, .int _ => some false | .tup _, .str _ => some false | .tup _, .lst _ => some false
  | .lst _, .non => some false | .lst _, .bl _ => some false | .lst _, .int _ => some false | .lst _, .str _ => some false | .lst _, .tup _ => some false
  | _, _ => none
def eqvL : List AV → List AV → Option Bool
  | [], [] => some true
  | [], _ :: _ => some false
  | _ :: _, [] => some false
  | x :: xs, y :: ys => match eqv x y, eqvL xs ys with
    | some a, some b => some (a && b)
    | _, _ => none
end
section
variable {κ : Kap} {X : Cx} {pins : List (Addr × Obj)} {σ : St} {H : Hp} {s : Shared} {ι : List Addr}
mutual
theorem rel_same (I : Inv X pins σ H s) : ∀ (a b : AV) (x : V) (r : Bool), Rel X.K κ ι H a x → Rel X.K κ ι H b x → eqv a b = some r → r = true
  | .non, b, x, r, h, g, e => by
    cases h; cases g
    simpa [eqv] using e.symm
  | .bl p, b, x, r, h, g, e => by
    cases h; cases g
    simpa [eqv] using e.symm
  | .int p, b, x, r, h, g, e => by
    cases h; cases g
    simpa [eqv] using e.symm
  | .str p, b, x, r, h, g, e => by
    cases h; cases g
    simpa [eqv] using e.symm
  | .tup xs, b, x, r, h, g, e => by
    cases b <;> first | (simp only [eqv] at e; cases e; done) | skip
    all_goals first | (cases h; cases g; done) | skip
    · rename_i ys
      cases h with
      | tup h1 r1 =>
        cases g with
        | tup h2 r2 =>
          have ev := I.tuple_inj h1 h2
          subst ev
          exact rel_sameL I xs ys _ r r1 r2 (by simpa [eqv] using e)
    · rename_i ys
      cases h with
      | tup h1 r1 =>
        cases g with
        | lst h2 r2 =>
          obtain ⟨_, _, ⟨o1, g1, c1, _⟩, _⟩ := I.tuple h1
          obtain ⟨_, _, ⟨o2, n2, g2, c2, _⟩, _⟩ := I.list h2.sq
          rw [g1] at g2
          cases g2
          rw [c1] at c2
          injection c2 with q
          exact absurd q (by decide)
  | .lst xs, b, x, r, h, g, e => by
    cases b <;> first | (simp only [eqv] at e; cases e; done) | skip
    all_goals first | (cases h; cases g; done) | skip
    · rename_i ys
      cases h with
      | lst h1 r1 =>
        cases g with
        | tup h2 r2 =>
          obtain ⟨_, _, ⟨o1, g1, c1, _⟩, _⟩ := I.tuple h2
          obtain ⟨_, _, ⟨o2, n2, g2, c2, _⟩, _⟩ := I.list h1.sq
          rw [g1] at g2
          cases g2
          rw [c1] at c2
          injection c2 with q
          exact absurd q (by decide)
    · rename_i ys
      cases h with
      | lst h1 r1 =>
        cases g with
        | lst h2 r2 =>
          have ev := I.list_inj h1.sq h2.sq
          subst ev
          have el : xs.length = ys.length := r1.length.trans r2.length.symm
          rw [eqv, if_pos el] at e
          exact rel_sameL I xs ys _ r r1 r2 e
  | .dct _, b, _, _, _, _, e => by cases b <;> (simp only [eqv] at e; cases e)
  | .loc _, b, _, _, _, _, e => by cases b <;> (simp only [eqv] at e; cases e)
  | .obj _, b, _, _, _, _, e => by cases b <;> (simp only [eqv] at e; cases e)
  | .scr _, b, _, _, _, _, e => by cases b <;> (simp only [eqv] at e; cases e)
  | .ty _, b, _, _, _, _, e => by cases b <;> (simp only [eqv] at e; cases e)
theorem rel_sameL (I : Inv X pins σ H s) : ∀ (as bs : List AV) (xs : List V) (r : Bool), RelL X.K κ ι H as xs → RelL X.K κ ι H bs xs → eqvL as bs = some r → r = true
  | [], bs, xs, r, h, g, e => by
    cases h; cases g
    simpa [eqvL] using e.symm
  | a :: as, bs, xs, r, h, g, e => by
    cases h with
    | cons h1 h2 =>
      cases g with
      | cons g1 g2 =>
        rename_i b bs'
        unfold eqvL at e
        cases q1 : eqv a b with
        | none => rw [q1] at e; cases e
        | some r1 =>
          cases q2 : eqvL as bs' with
          | none => rw [q1, q2] at e; cases e
          | some r2 =>
            rw [q1, q2] at e
            cases e
            rw [rel_same I a b _ r1 h1 g1 q1, rel_sameL I as bs' _ r2 h2 g2 q2]
            rfl
end

theorem all_eqvL : ∀ {as bs : List AV} {r : Bool}, eqvL as bs = some r → ∃ f : Nat → Bool, (∀ (j : Nat) (a b : AV), as[j]? = some a → bs[j]? = some b → eqv a b = some (f j)) ∧ r = ((List.range (min as.length bs.length)).all f && as.length == bs.length)
  | [], [], r, e => ⟨fun _ => true, fun j a b h => by simp at h, by simpa [eqvL] using e.symm⟩
  | [], _ :: _, r, e => ⟨fun _ => true, fun j a b h => by simp at h, by simpa [eqvL] using e.symm⟩
  | _ :: _, [], r, e => ⟨fun _ => true, fun j a b _ h => by simp at h, by simpa [eqvL] using e.symm⟩
  | x :: xs, y :: ys, r, e => by
    unfold eqvL at e
    cases q1 : eqv x y with
    | none => rw [q1] at e; cases e
    | some r1 =>
      cases q2 : eqvL xs ys with
      | none => rw [q1, q2] at e; cases e
      | some r2 =>
        rw [q1, q2] at e
        cases e
        obtain ⟨f, h1, h2⟩ := all_eqvL q2
        refine ⟨fun j => match j with | 0 => r1 | j + 1 => f j, fun j a b ha hb => ?_, ?_⟩
        · cases j with
          | zero => simp at ha hb; subst ha hb; exact q1
          | succ j => exact h1 j a b (by simpa using ha) (by simpa using hb)
        · rw [h2, List.length_cons, List.length_cons, show min (xs.length + 1) (ys.length + 1) = min xs.length ys.length + 1 by omega, List.range_succ_eq_map, List.all_cons, List.all_map, Bool.and_assoc]
          have : (xs.length + 1 == ys.length + 1) = (xs.length == ys.length) := by simp
          rw [this]
          rfl
theorem depL_get : ∀ {xs : List AV} {j : Nat} {a : AV}, xs[j]? = some a → dep a ≤ depL xs
  | [], _, _, h => by simp at h
  | x :: xs, 0, a, h => by
    simp at h; subst h
    unfold depL
    exact Nat.le_max_left _ _
  | x :: xs, j + 1, a, h => by
    unfold depL
    exact Nat.le_trans (depL_get (j := j) (by simpa using h)) (Nat.le_max_right _ _)
theorem eqAt_rel (I : Inv X pins σ H s) : ∀ (n : Nat) (a b : AV) (x y : V) (u w : Value) (r : Bool) (A : Around), min (dep a) (dep b) ≤ n → Rel X.K κ ι H a x → Rel X.K κ ι H b y → RelV x u → RelV y w → eqv a b = some r → A.units + n < cLine → SeqAt.EqAt A s u w r
  | n, .non, b, x, y, u, w, r, A, hn, h, g, ru, rw', e, hu => by
    cases h; cases ru
    cases b <;> first | (simp only [eqv] at e; cases e; done) | skip
    all_goals simp only [eqv, Option.some.injEq] at e; subst e
    · cases g; cases rw'; exact SeqAt.EqAt.same _
    · cases g; cases rw'; exact SeqAt.EqAt.none_bool _
    · cases g; obtain ⟨t, rfl⟩ := rw'; exact SeqAt.EqAt.none_int _ t
    · cases g; obtain ⟨t, rfl⟩ := rw'; exact SeqAt.EqAt.none_str _ t
    · cases g with
      | tup h2 r2 => cases rw'; obtain ⟨_, _, p, _⟩ := I.tuple h2; exact SeqAt.EqAt.none_tuple p (by omega)
    · cases g with
      | lst h2 r2 => cases rw'; obtain ⟨_, _, p, _⟩ := I.list h2.sq; exact SeqAt.EqAt.none_list p.isList (by omega)
  | n, .bl k, b, x, y, u, w, r, A, hn, h, g, ru, rw', e, hu => by
    cases h; cases ru
    cases b <;> first | (simp only [eqv] at e; cases e; done) | skip
    all_goals simp only [eqv, Option.some.injEq] at e; subst e
    · cases g; cases rw'; exact SeqAt.EqAt.bool_none _
    · cases g; cases rw'; exact SeqAt.EqAt.bool_bool _ _
    · cases g; obtain ⟨t, rfl⟩ := rw'; exact SeqAt.EqAt.bool_int _ _ t
    · cases g; obtain ⟨t, rfl⟩ := rw'; exact SeqAt.EqAt.bool_str _ _ t
    · cases g with
      | tup h2 r2 => cases rw'; obtain ⟨_, _, p, _⟩ := I.tuple h2; exact SeqAt.EqAt.bool_tuple _ p (by omega)
    · cases g with
      | lst h2 r2 => cases rw'; obtain ⟨_, _, p, _⟩ := I.list h2.sq; exact SeqAt.EqAt.bool_list _ p.isList (by omega)
  | n, .int k, b, x, y, u, w, r, A, hn, h, g, ru, rw', e, hu => by
    cases h; obtain ⟨t0, rfl⟩ := ru
    cases b <;> first | (simp only [eqv] at e; cases e; done) | skip
    all_goals simp only [eqv, Option.some.injEq] at e; subst e
    · cases g; cases rw'; exact SeqAt.EqAt.int_none _ t0
    · cases g; cases rw'; exact SeqAt.EqAt.int_bool _ t0 _
    · cases g; obtain ⟨t, rfl⟩ := rw'; exact SeqAt.EqAt.int_int _ t0 _ t
    · cases g; obtain ⟨t, rfl⟩ := rw'; exact SeqAt.EqAt.int_str _ t0 _ t
    · cases g with
      | tup h2 r2 => cases rw'; obtain ⟨_, _, p, _⟩ := I.tuple h2; exact SeqAt.EqAt.int_tuple _ t0 p (by omega)
    · cases g with
      | lst h2 r2 => cases rw'; obtain ⟨_, _, p, _⟩ := I.list h2.sq; exact SeqAt.EqAt.int_list _ t0 p.isList (by omega)
  | n, .str k, b, x, y, u, w, r, A, hn, h, g, ru, rw', e, hu => by
    cases h; obtain ⟨t0, rfl⟩ := ru
    cases b <;> first | (simp only [eqv] at e; cases e; done) | skip
    all_goals simp only [eqv, Option.some.injEq] at e; subst e
    · cases g; cases rw'; exact SeqAt.EqAt.str_none _ t0
    · cases g; cases rw'; exact SeqAt.EqAt.str_bool _ t0 _
    · cases g; obtain ⟨t, rfl⟩ := rw'; exact SeqAt.EqAt.str_int _ t0 _ t
    · cases g; obtain ⟨t, rfl⟩ := rw'; exact SeqAt.EqAt.str_str _ t0 _ t
    · cases g with
      | tup h2 r2 => cases rw'; obtain ⟨_, _, p, _⟩ := I.tuple h2; exact SeqAt.EqAt.str_tuple _ t0 p (by omega)
    · cases g with
      | lst h2 r2 => cases rw'; obtain ⟨_, _, p, _⟩ := I.list h2.sq; exact SeqAt.EqAt.str_list _ t0 p.isList (by omega)
  | n, .tup xs, b, x, y, u, w, r, A, hn, h, g, ru, rw', e, hu => by
    have e0 := e
    have h0 := h
    cases h with
    | tup h1 r1 =>
      rename_i a1 vs1
      obtain ⟨its, rv, p1, hz1⟩ := I.tuple h1
      cases ru
      cases b <;> first | (simp only [eqv] at e; cases e; done) | skip
      all_goals simp only [eqv] at e
      · cases e; cases g; cases rw'; exact SeqAt.EqAt.tuple_none p1 (by omega)
      · cases e; cases g; cases rw'; exact SeqAt.EqAt.tuple_bool _ p1 (by omega)
      · cases e; cases g; obtain ⟨t, rfl⟩ := rw'; exact SeqAt.EqAt.tuple_int _ t p1 (by omega)
      · cases e; cases g; obtain ⟨t, rfl⟩ := rw'; exact SeqAt.EqAt.tuple_str _ t p1 (by omega)
      · have g0 := g
        cases g with
        | tup h2 r2 =>
          rename_i ys a2 vs2
          obtain ⟨its2, rv2, p2, hz2⟩ := I.tuple h2
          cases rw'
          by_cases ea : a1 = a2
          · subst ea
            rw [rel_same I _ _ _ r h0 g0 e0]
            exact SeqAt.EqAt.same _
          · obtain ⟨f, hf, er⟩ := all_eqvL e
            have l1 : its.toArray.size = xs.length := by rw [List.size_toArray, ← rv.length, ← r1.length]
            have l2 : its2.toArray.size = ys.length := by rw [List.size_toArray, ← rv2.length, ← r2.length]
            rw [er, ← l1, ← l2]
            simp only [dep] at hn
            refine SeqAt.EqAt.of_refs ea (SeqAt.RcAt.tuples (e := f) p1 p2 (by omega) fun j k1 k2 => ?_)
            obtain ⟨xa, ex⟩ : ∃ xa, xs[j]? = some xa := ⟨_, List.getElem?_eq_getElem (by omega)⟩
            obtain ⟨ya, ey⟩ : ∃ ya, ys[j]? = some ya := ⟨_, List.getElem?_eq_getElem (by omega)⟩
            obtain ⟨v1, e1, q1⟩ := r1.get ex
            obtain ⟨v2, e2, q2⟩ := r2.get ey
            obtain ⟨u1, g1, s1⟩ := rv.get e1
            obtain ⟨u2, g2, s2⟩ := rv2.get e2
            have z1 : its.toArray[j] = u1 := by simpa [List.getElem?_eq_some_iff.mp g1] using (List.getElem?_eq_some_iff.mp g1).2
            have z2 : its2.toArray[j] = u2 := by simpa using (List.getElem?_eq_some_iff.mp g2).2
            rw [z1, z2]
            have d1 := depL_get ex
            have d2 := depL_get ey
            match n, hn, hu with
            | 0, hn, hu => omega
            | n + 1, hn, hu => exact eqAt_rel I n xa ya v1 v2 u1 u2 (f j) A.in1 (by omega) q1 q2 s1 s2 (hf j xa ya ex ey) (by show A.units + 1 + n < cLine; omega)
      · cases e
        cases g with
        | lst h2 r2 => cases rw'; obtain ⟨_, _, p, _⟩ := I.list h2.sq; exact SeqAt.EqAt.tuple_list p1 p.isList (by omega)
  | n, .lst xs, b, x, y, u, w, r, A, hn, h, g, ru, rw', e, hu => by
    have e0 := e
    have h0 := h
    cases h with
    | lst h1 r1 =>
      rename_i a1 vs1
      obtain ⟨its, rv, p1, hz1⟩ := I.list h1.sq
      cases ru
      cases b <;> first | (simp only [eqv] at e; cases e; done) | skip
      all_goals simp only [eqv] at e
      · cases e; cases g; cases rw'; exact SeqAt.EqAt.list_none p1.isList (by omega)
      · cases e; cases g; cases rw'; exact SeqAt.EqAt.list_bool _ p1.isList (by omega)
      · cases e; cases g; obtain ⟨t, rfl⟩ := rw'; exact SeqAt.EqAt.list_int _ t p1.isList (by omega)
      · cases e; cases g; obtain ⟨t, rfl⟩ := rw'; exact SeqAt.EqAt.list_str _ t p1.isList (by omega)
      · cases e
        cases g with
        | tup h2 r2 => cases rw'; obtain ⟨_, _, p, _⟩ := I.tuple h2; exact SeqAt.EqAt.list_tuple p1.isList p (by omega)
      · have g0 := g
        cases g with
        | lst h2 r2 =>
          rename_i ys a2 vs2
          obtain ⟨its2, rv2, p2, hz2⟩ := I.list h2.sq
          cases rw'
          by_cases ea : a1 = a2
          · subst ea
            rw [rel_same I _ _ _ r h0 g0 e0]
            exact SeqAt.EqAt.same _
          · have l1 : its.toArray.size = xs.length := by rw [List.size_toArray, ← rv.length, ← r1.length]
            have l2 : its2.toArray.size = ys.length := by rw [List.size_toArray, ← rv2.length, ← r2.length]
            simp only [dep] at hn
            by_cases el : xs.length = ys.length
            · rw [if_pos el] at e
              obtain ⟨f, hf, er⟩ := all_eqvL e
              have er' : r = (List.range its.toArray.size).all f := by rw [er, l1, el]; simp
              rw [er']
              refine SeqAt.EqAt.of_refs ea (SeqAt.RcAt.lists (e := f) p1.isList p2.isList (by omega) (by omega) fun j k1 k2 => ?_)
              obtain ⟨xa, ex⟩ : ∃ xa, xs[j]? = some xa := ⟨_, List.getElem?_eq_getElem (by omega)⟩
              obtain ⟨ya, ey⟩ : ∃ ya, ys[j]? = some ya := ⟨_, List.getElem?_eq_getElem (by omega)⟩
              obtain ⟨v1, e1, q1⟩ := r1.get ex
              obtain ⟨v2, e2, q2⟩ := r2.get ey
              obtain ⟨u1, g1, s1⟩ := rv.get e1
              obtain ⟨u2, g2, s2⟩ := rv2.get e2
              have z1 : its.toArray[j] = u1 := by simpa using (List.getElem?_eq_some_iff.mp g1).2
              have z2 : its2.toArray[j] = u2 := by simpa using (List.getElem?_eq_some_iff.mp g2).2
              rw [z1, z2]
              have d1 := depL_get ex
              have d2 := depL_get ey
              match n, hn, hu with
              | 0, hn, hu => omega
              | n + 1, hn, hu => exact eqAt_rel I n xa ya v1 v2 u1 u2 (f j) A.in1 (by omega) q1 q2 s1 s2 (hf j xa ya ex ey) (by show A.units + 1 + n < cLine; omega)
            · rw [if_neg el] at e
              cases e
              exact SeqAt.EqAt.of_refs ea (SeqAt.RcAt.lists_lengths p1.isList p2.isList (by simp only [bne_iff_ne]; omega) (by omega))
  | n, .dct _, b, x, y, u, w, r, A, hn, h, g, ru, rw', e, hu => by cases b <;> (simp only [eqv] at e; cases e)
  | n, .loc _, b, x, y, u, w, r, A, hn, h, g, ru, rw', e, hu => by cases b <;> (simp only [eqv] at e; cases e)
  | n, .obj _, b, x, y, u, w, r, A, hn, h, g, ru, rw', e, hu => by cases b <;> (simp only [eqv] at e; cases e)
  | n, .scr _, b, x, y, u, w, r, A, hn, h, g, ru, rw', e, hu => by cases b <;> (simp only [eqv] at e; cases e)
  | n, .ty _, b, x, y, u, w, r, A, hn, h, g, ru, rw', e, hu => by cases b <;> (simp only [eqv] at e; cases e)
end
end Lr


namespace Lr
open PySem PySem.Spec L2
open PyProof.Rows hiding St
section
variable {κ : Kap} {X : Cx} {pins : List (Addr × Obj)} {σ : St} {H : Hp} {s : Shared} {ι : List Addr}
theorem seqT (I : Inv X pins σ H s) (n : Nat) {xs ys : List AV} {a1 a2 : Addr} {vs1 vs2 : List V} {r : Bool} {A : Around} (h1 : SqT X.K H a1 vs1) (r1 : RelL X.K κ ι H xs vs1) (h2 : SqT X.K H a2 vs2) (r2 : RelL X.K κ ι H ys vs2) (e : eqvL xs ys = some r) (hn : min (depL xs) (depL ys) + 1 ≤ n) (hu : A.units + n < cLine) : SeqAt.RcAt A s (.ref a1) (.ref a2) r := by
  obtain ⟨its, rv, p1, _⟩ := I.tuple h1
  obtain ⟨its2, rv2, p2, _⟩ := I.tuple h2
  obtain ⟨f, hf, er⟩ := all_eqvL e
  have l1 : its.toArray.size = xs.length := by rw [List.size_toArray, ← rv.length, ← r1.length]
  have l2 : its2.toArray.size = ys.length := by rw [List.size_toArray, ← rv2.length, ← r2.length]
  rw [er, ← l1, ← l2]
  refine SeqAt.RcAt.tuples (e := f) p1 p2 (by omega) fun j k1 k2 => ?_
  obtain ⟨xa, ex⟩ : ∃ xa, xs[j]? = some xa := ⟨_, List.getElem?_eq_getElem (by omega)⟩
  obtain ⟨ya, ey⟩ : ∃ ya, ys[j]? = some ya := ⟨_, List.getElem?_eq_getElem (by omega)⟩
  obtain ⟨v1, e1, q1⟩ := r1.get ex
  obtain ⟨v2, e2, q2⟩ := r2.get ey
  obtain ⟨u1, g1, s1⟩ := rv.get e1
  obtain ⟨u2, g2, s2⟩ := rv2.get e2
  have z1 : its.toArray[j] = u1 := by simpa using (List.getElem?_eq_some_iff.mp g1).2
  have z2 : its2.toArray[j] = u2 := by simpa using (List.getElem?_eq_some_iff.mp g2).2
  rw [z1, z2]
  have d1 := depL_get ex
  have d2 := depL_get ey
  match n, hn, hu with
  | 0, hn, hu => omega
  | n + 1, hn, hu => exact eqAt_rel I n xa ya v1 v2 u1 u2 (f j) A.in1 (by omega) q1 q2 s1 s2 (hf j xa ya ex ey) (by show A.units + 1 + n < cLine; omega)
theorem seqL (I : Inv X pins σ H s) (n : Nat) {xs ys : List AV} {a1 a2 : Addr} {vs1 vs2 : List V} {r : Bool} {A : Around} (h1 : SqL X.K H a1 vs1) (r1 : RelL X.K κ ι H xs vs1) (h2 : SqL X.K H a2 vs2) (r2 : RelL X.K κ ι H ys vs2) (e : (if xs.length = ys.length then eqvL xs ys else some false) = some r) (hn : min (depL xs) (depL ys) + 1 ≤ n) (hu : A.units + n < cLine) : SeqAt.RcAt A s (.ref a1) (.ref a2) r := by
  obtain ⟨its, rv, p1, _⟩ := I.list h1
  obtain ⟨its2, rv2, p2, _⟩ := I.list h2
  have l1 : its.toArray.size = xs.length := by rw [List.size_toArray, ← rv.length, ← r1.length]
  have l2 : its2.toArray.size = ys.length := by rw [List.size_toArray, ← rv2.length, ← r2.length]
  by_cases el : xs.length = ys.length
  · rw [if_pos el] at e
    obtain ⟨f, hf, er⟩ := all_eqvL e
    have er' : r = (List.range its.toArray.size).all f := by rw [er, l1, el]; simp
    rw [er']
    refine SeqAt.RcAt.lists (e := f) p1.isList p2.isList (by omega) (by omega) fun j k1 k2 => ?_
    obtain ⟨xa, ex⟩ : ∃ xa, xs[j]? = some xa := ⟨_, List.getElem?_eq_getElem (by omega)⟩
    obtain ⟨ya, ey⟩ : ∃ ya, ys[j]? = some ya := ⟨_, List.getElem?_eq_getElem (by omega)⟩
    obtain ⟨v1, e1, q1⟩ := r1.get ex
    obtain ⟨v2, e2, q2⟩ := r2.get ey
    obtain ⟨u1, g1, s1⟩ := rv.get e1
    obtain ⟨u2, g2, s2⟩ := rv2.get e2
    have z1 : its.toArray[j] = u1 := by simpa using (List.getElem?_eq_some_iff.mp g1).2
    have z2 : its2.toArray[j] = u2 := by simpa using (List.getElem?_eq_some_iff.mp g2).2
    rw [z1, z2]
    have d1 := depL_get ex
    have d2 := depL_get ey
    match n, hn, hu with
    | 0, hn, hu => omega
    | n + 1, hn, hu => exact eqAt_rel I n xa ya v1 v2 u1 u2 (f j) A.in1 (by omega) q1 q2 s1 s2 (hf j xa ya ex ey) (by show A.units + 1 + n < cLine; omega)
  · rw [if_neg el] at e
    cases e
    exact SeqAt.RcAt.lists_lengths p1.isList p2.isList (by simp only [bne_iff_ne]; omega) (by omega)

theorem rc_rel (I : Inv X pins σ H s) (n : Nat) (a b : AV) (x y : V) (u w : Value) (r : Bool) (A : Around) (hn : min (dep a) (dep b) ≤ n) (h : Rel X.K κ ι H a x) (g : Rel X.K κ ι H b y) (ru : RelV x u) (rw' : RelV y w) (e : eqv a b = some r) (hu : A.units + n < cLine) : SeqAt.RcAt A s u w r := by
  cases h <;> cases g <;> first | (simp only [eqv] at e; cases e; done) | skip
  all_goals simp only [eqv, Option.some.injEq] at e
  · subst e; cases ru; cases rw'; exact SeqAt.RcAt.none_none
  · subst e; cases ru; cases rw'; exact SeqAt.RcAt.none_bool _
  · subst e; cases ru; obtain ⟨tr, rfl⟩ := rw'; exact SeqAt.RcAt.none_int _ _
  · subst e; cases ru; obtain ⟨tr, rfl⟩ := rw'; exact SeqAt.RcAt.none_str _ _
  · subst e; cases ru; cases rw'; rename_i h2 r2; obtain ⟨_, _, p, _⟩ := I.tuple h2; exact SeqAt.RcAt.none_tuple p (by omega)
  · subst e; cases ru; cases rw'; rename_i h2 r2; obtain ⟨_, _, p, _⟩ := I.list h2.sq; exact SeqAt.RcAt.none_list p.isList (by omega)
  · subst e; cases ru; cases rw'; exact SeqAt.RcAt.bool_none _
  · subst e; cases ru; cases rw'; exact SeqAt.RcAt.bool_bool _ _
  · subst e; cases ru; obtain ⟨tr, rfl⟩ := rw'; exact SeqAt.RcAt.bool_int _ _ _
  · subst e; cases ru; obtain ⟨tr, rfl⟩ := rw'; exact SeqAt.RcAt.bool_str _ _ _
  · subst e; cases ru; cases rw'; rename_i h2 r2; obtain ⟨_, _, p, _⟩ := I.tuple h2; exact SeqAt.RcAt.bool_tuple _ p (by omega)
  · subst e; cases ru; cases rw'; rename_i h2 r2; obtain ⟨_, _, p, _⟩ := I.list h2.sq; exact SeqAt.RcAt.bool_list _ p.isList (by omega)
  · subst e; obtain ⟨tr, rfl⟩ := ru; cases rw'; exact SeqAt.RcAt.int_none _ _
  · subst e; obtain ⟨tr, rfl⟩ := ru; cases rw'; exact SeqAt.RcAt.int_bool _ _ _
  · subst e; obtain ⟨tr, rfl⟩ := ru; obtain ⟨tr, rfl⟩ := rw'; exact SeqAt.RcAt.int_int _ _ _ _
  · subst e; obtain ⟨tr, rfl⟩ := ru; obtain ⟨tr, rfl⟩ := rw'; exact SeqAt.RcAt.int_str _ _ _ _
  · subst e; obtain ⟨tr, rfl⟩ := ru; cases rw'; rename_i h2 r2; obtain ⟨_, _, p, _⟩ := I.tuple h2; exact SeqAt.RcAt.int_tuple _ _ p (by omega)
  · subst e; obtain ⟨tr, rfl⟩ := ru; cases rw'; rename_i h2 r2; obtain ⟨_, _, p, _⟩ := I.list h2.sq; exact SeqAt.RcAt.int_list _ _ p.isList (by omega)
  · subst e; obtain ⟨tr, rfl⟩ := ru; cases rw'; exact SeqAt.RcAt.str_none _ _
  · subst e; obtain ⟨tr, rfl⟩ := ru; cases rw'; exact SeqAt.RcAt.str_bool _ _ _
  · subst e; obtain ⟨tr, rfl⟩ := ru; obtain ⟨tr, rfl⟩ := rw'; exact SeqAt.RcAt.str_int _ _ _ _
  · subst e; obtain ⟨tr, rfl⟩ := ru; obtain ⟨tr, rfl⟩ := rw'; exact SeqAt.RcAt.str_str _ _ _ _
  · subst e; obtain ⟨tr, rfl⟩ := ru; cases rw'; rename_i h2 r2; obtain ⟨_, _, p, _⟩ := I.tuple h2; exact SeqAt.RcAt.str_tuple _ _ p (by omega)
  · subst e; obtain ⟨tr, rfl⟩ := ru; cases rw'; rename_i h2 r2; obtain ⟨_, _, p, _⟩ := I.list h2.sq; exact SeqAt.RcAt.str_list _ _ p.isList (by omega)
  · subst e; cases rw'; cases ru; rename_i h2 r2; obtain ⟨_, _, p, _⟩ := I.tuple h2; exact SeqAt.RcAt.tuple_none p (by omega)
  · subst e; cases rw'; cases ru; rename_i h2 r2 _; obtain ⟨_, _, p, _⟩ := I.tuple h2; exact SeqAt.RcAt.tuple_bool _ p (by omega)
  · subst e; obtain ⟨tr, rfl⟩ := rw'; cases ru; rename_i h2 r2 _; obtain ⟨_, _, p, _⟩ := I.tuple h2; exact SeqAt.RcAt.tuple_int _ _ p (by omega)
  · subst e; obtain ⟨tr, rfl⟩ := rw'; cases ru; rename_i h2 r2 _; obtain ⟨_, _, p, _⟩ := I.tuple h2; exact SeqAt.RcAt.tuple_str _ _ p (by omega)
  · cases ru; cases rw'; rename_i h1 r1 _ _ _ h2 r2; exact seqT I n h1 r1 h2 r2 e (by simp only [dep] at hn; omega) hu
  · subst e; cases ru; cases rw'; rename_i h1 r1 _ _ _ h2 r2; obtain ⟨_, _, p1, _⟩ := I.tuple h1; obtain ⟨_, _, p, _⟩ := I.list h2.sq; exact SeqAt.RcAt.tuple_list p1 p.isList (by omega)
  · subst e; cases rw'; cases ru; rename_i h2 r2; obtain ⟨_, _, p, _⟩ := I.list h2.sq; exact SeqAt.RcAt.list_none p.isList (by omega)
  · subst e; cases rw'; cases ru; rename_i h2 r2 _; obtain ⟨_, _, p, _⟩ := I.list h2.sq; exact SeqAt.RcAt.list_bool _ p.isList (by omega)
  · subst e; obtain ⟨tr, rfl⟩ := rw'; cases ru; rename_i h2 r2 _; obtain ⟨_, _, p, _⟩ := I.list h2.sq; exact SeqAt.RcAt.list_int _ _ p.isList (by omega)
  · subst e; obtain ⟨tr, rfl⟩ := rw'; cases ru; rename_i h2 r2 _; obtain ⟨_, _, p, _⟩ := I.list h2.sq; exact SeqAt.RcAt.list_str _ _ p.isList (by omega)
  · subst e; cases ru; cases rw'; rename_i h1 r1 _ _ _ h2 r2; obtain ⟨_, _, p1, _⟩ := I.list h1.sq; obtain ⟨_, _, p, _⟩ := I.tuple h2; exact SeqAt.RcAt.list_tuple p1.isList p (by omega)
  · cases ru; cases rw'; rename_i h1 r1 _ _ _ h2 r2; exact seqL I n h1.sq r1 h2.sq r2 e (by simp only [dep] at hn; omega) hu
theorem seqNeT (I : Inv X pins σ H s) (n : Nat) {xs ys : List AV} {a1 a2 : Addr} {vs1 vs2 : List V} {r : Bool} {A : Around} (h1 : SqT X.K H a1 vs1) (r1 : RelL X.K κ ι H xs vs1) (h2 : SqT X.K H a2 vs2) (r2 : RelL X.K κ ι H ys vs2) (e : eqvL xs ys = some r) (hn : min (depL xs) (depL ys) + 1 ≤ n) (hu : A.units + n < cLine) : SeqAt.RcNeAt A s (.ref a1) (.ref a2) (!r) := by
  obtain ⟨its, rv, p1, _⟩ := I.tuple h1
  obtain ⟨its2, rv2, p2, _⟩ := I.tuple h2
  obtain ⟨f, hf, er⟩ := all_eqvL e
  have l1 : its.toArray.size = xs.length := by rw [List.size_toArray, ← rv.length, ← r1.length]
  have l2 : its2.toArray.size = ys.length := by rw [List.size_toArray, ← rv2.length, ← r2.length]
  rw [er, ← l1, ← l2]
  refine SeqAt.RcNeAt.tuples (e := f) p1 p2 (by omega) fun j k1 k2 => ?_
  obtain ⟨xa, ex⟩ : ∃ xa, xs[j]? = some xa := ⟨_, List.getElem?_eq_getElem (by omega)⟩
  obtain ⟨ya, ey⟩ : ∃ ya, ys[j]? = some ya := ⟨_, List.getElem?_eq_getElem (by omega)⟩
  obtain ⟨v1, e1, q1⟩ := r1.get ex
  obtain ⟨v2, e2, q2⟩ := r2.get ey
  obtain ⟨u1, g1, s1⟩ := rv.get e1
  obtain ⟨u2, g2, s2⟩ := rv2.get e2
  have z1 : its.toArray[j] = u1 := by simpa using (List.getElem?_eq_some_iff.mp g1).2
  have z2 : its2.toArray[j] = u2 := by simpa using (List.getElem?_eq_some_iff.mp g2).2
  rw [z1, z2]
  have d1 := depL_get ex
  have d2 := depL_get ey
  match n, hn, hu with
  | 0, hn, hu => omega
  | n + 1, hn, hu => exact eqAt_rel I n xa ya v1 v2 u1 u2 (f j) A.in1 (by omega) q1 q2 s1 s2 (hf j xa ya ex ey) (by show A.units + 1 + n < cLine; omega)
theorem seqNeL (I : Inv X pins σ H s) (n : Nat) {xs ys : List AV} {a1 a2 : Addr} {vs1 vs2 : List V} {r : Bool} {A : Around} (h1 : SqL X.K H a1 vs1) (r1 : RelL X.K κ ι H xs vs1) (h2 : SqL X.K H a2 vs2) (r2 : RelL X.K κ ι H ys vs2) (e : (if xs.length = ys.length then eqvL xs ys else some false) = some r) (hn : min (depL xs) (depL ys) + 1 ≤ n) (hu : A.units + n < cLine) : SeqAt.RcNeAt A s (.ref a1) (.ref a2) (!r) := by
  obtain ⟨its, rv, p1, _⟩ := I.list h1
  obtain ⟨its2, rv2, p2, _⟩ := I.list h2
  have l1 : its.toArray.size = xs.length := by rw [List.size_toArray, ← rv.length, ← r1.length]
  have l2 : its2.toArray.size = ys.length := by rw [List.size_toArray, ← rv2.length, ← r2.length]
  by_cases el : xs.length = ys.length
  · rw [if_pos el] at e
    obtain ⟨f, hf, er⟩ := all_eqvL e
    have er' : r = (List.range its.toArray.size).all f := by rw [er, l1, el]; simp
    rw [er']
    refine SeqAt.RcNeAt.lists (e := f) p1.isList p2.isList (by omega) (by omega) fun j k1 k2 => ?_
    obtain ⟨xa, ex⟩ : ∃ xa, xs[j]? = some xa := ⟨_, List.getElem?_eq_getElem (by omega)⟩
    obtain ⟨ya, ey⟩ : ∃ ya, ys[j]? = some ya := ⟨_, List.getElem?_eq_getElem (by omega)⟩
    obtain ⟨v1, e1, q1⟩ := r1.get ex
    obtain ⟨v2, e2, q2⟩ := r2.get ey
    obtain ⟨u1, g1, s1⟩ := rv.get e1
    obtain ⟨u2, g2, s2⟩ := rv2.get e2
    have z1 : its.toArray[j] = u1 := by simpa using (List.getElem?_eq_some_iff.mp g1).2
    have z2 : its2.toArray[j] = u2 := by simpa using (List.getElem?_eq_some_iff.mp g2).2
    rw [z1, z2]
    have d1 := depL_get ex
    have d2 := depL_get ey
    match n, hn, hu with
    | 0, hn, hu => omega
    | n + 1, hn, hu => exact eqAt_rel I n xa ya v1 v2 u1 u2 (f j) A.in1 (by omega) q1 q2 s1 s2 (hf j xa ya ex ey) (by show A.units + 1 + n < cLine; omega)
  · rw [if_neg el] at e
    cases e
    exact SeqAt.RcNeAt.lists_lengths p1.isList p2.isList (by simp only [bne_iff_ne]; omega) (by omega)

theorem rcNe_rel (I : Inv X pins σ H s) (n : Nat) (a b : AV) (x y : V) (u w : Value) (r : Bool) (A : Around) (hn : min (dep a) (dep b) ≤ n) (h : Rel X.K κ ι H a x) (g : Rel X.K κ ι H b y) (ru : RelV x u) (rw' : RelV y w) (e : eqv a b = some r) (hu : A.units + n < cLine) : SeqAt.RcNeAt A s u w (!r) := by
  cases h <;> cases g <;> first | (simp only [eqv] at e; cases e; done) | skip
  all_goals simp only [eqv, Option.some.injEq] at e
  · subst e; cases ru; cases rw'; exact SeqAt.RcNeAt.none_none
  · subst e; cases ru; cases rw'; exact SeqAt.RcNeAt.none_bool _
  · subst e; cases ru; obtain ⟨tr, rfl⟩ := rw'; exact SeqAt.RcNeAt.none_int _ _
  · subst e; cases ru; obtain ⟨tr, rfl⟩ := rw'; exact SeqAt.RcNeAt.none_str _ _
  · subst e; cases ru; cases rw'; rename_i h2 r2; obtain ⟨_, _, p, _⟩ := I.tuple h2; exact SeqAt.RcNeAt.none_tuple p (by omega)
  · subst e; cases ru; cases rw'; rename_i h2 r2; obtain ⟨_, _, p, _⟩ := I.list h2.sq; exact SeqAt.RcNeAt.none_list p.isList (by omega)
  · subst e; cases ru; cases rw'; exact SeqAt.RcNeAt.bool_none _
  · subst e; cases ru; cases rw'; exact SeqAt.RcNeAt.bool_bool _ _
  · subst e; cases ru; obtain ⟨tr, rfl⟩ := rw'; exact SeqAt.RcNeAt.bool_int _ _ _
  · subst e; cases ru; obtain ⟨tr, rfl⟩ := rw'; exact SeqAt.RcNeAt.bool_str _ _ _
  · subst e; cases ru; cases rw'; rename_i h2 r2; obtain ⟨_, _, p, _⟩ := I.tuple h2; exact SeqAt.RcNeAt.bool_tuple _ p (by omega)
  · subst e; cases ru; cases rw'; rename_i h2 r2; obtain ⟨_, _, p, _⟩ := I.list h2.sq; exact SeqAt.RcNeAt.bool_list _ p.isList (by omega)
  · subst e; obtain ⟨tr, rfl⟩ := ru; cases rw'; exact SeqAt.RcNeAt.int_none _ _
  · subst e; obtain ⟨tr, rfl⟩ := ru; cases rw'; exact SeqAt.RcNeAt.int_bool _ _ _
  · subst e; obtain ⟨tr, rfl⟩ := ru; obtain ⟨tr, rfl⟩ := rw'; exact SeqAt.RcNeAt.int_int _ _ _ _
  · subst e; obtain ⟨tr, rfl⟩ := ru; obtain ⟨tr, rfl⟩ := rw'; exact SeqAt.RcNeAt.int_str _ _ _ _
  · subst e; obtain ⟨tr, rfl⟩ := ru; cases rw'; rename_i h2 r2; obtain ⟨_, _, p, _⟩ := I.tuple h2; exact SeqAt.RcNeAt.int_tuple _ _ p (by omega)
  · subst e; obtain ⟨tr, rfl⟩ := ru; cases rw'; rename_i h2 r2; obtain ⟨_, _, p, _⟩ := I.list h2.sq; exact SeqAt.RcNeAt.int_list _ _ p.isList (by omega)
  · subst e; obtain ⟨tr, rfl⟩ := ru; cases rw'; exact SeqAt.RcNeAt.str_none _ _
  · subst e; obtain ⟨tr, rfl⟩ := ru; cases rw'; exact SeqAt.RcNeAt.str_bool _ _ _
  · subst e; obtain ⟨tr, rfl⟩ := ru; obtain ⟨tr, rfl⟩ := rw'; exact SeqAt.RcNeAt.str_int _ _ _ _
  · subst e; obtain ⟨tr, rfl⟩ := ru; obtain ⟨tr, rfl⟩ := rw'; exact SeqAt.RcNeAt.str_str _ _ _ _
  · subst e; obtain ⟨tr, rfl⟩ := ru; cases rw'; rename_i h2 r2; obtain ⟨_, _, p, _⟩ := I.tuple h2; exact SeqAt.RcNeAt.str_tuple _ _ p (by omega)
  · subst e; obtain ⟨tr, rfl⟩ := ru; cases rw'; rename_i h2 r2; obtain ⟨_, _, p, _⟩ := I.list h2.sq; exact SeqAt.RcNeAt.str_list _ _ p.isList (by omega)
  · subst e; cases rw'; cases ru; rename_i h2 r2; obtain ⟨_, _, p, _⟩ := I.tuple h2; exact SeqAt.RcNeAt.tuple_none p (by omega)
  · subst e; cases rw'; cases ru; rename_i h2 r2 _; obtain ⟨_, _, p, _⟩ := I.tuple h2; exact SeqAt.RcNeAt.tuple_bool _ p (by omega)
  · subst e; obtain ⟨tr, rfl⟩ := rw'; cases ru; rename_i h2 r2 _; obtain ⟨_, _, p, _⟩ := I.tuple h2; exact SeqAt.RcNeAt.tuple_int _ _ p (by omega)
  · subst e; obtain ⟨tr, rfl⟩ := rw'; cases ru; rename_i h2 r2 _; obtain ⟨_, _, p, _⟩ := I.tuple h2; exact SeqAt.RcNeAt.tuple_str _ _ p (by omega)
  · cases ru; cases rw'; rename_i h1 r1 _ _ _ h2 r2; exact seqNeT I n h1 r1 h2 r2 e (by simp only [dep] at hn; omega) hu
  · subst e; cases ru; cases rw'; rename_i h1 r1 _ _ _ h2 r2; obtain ⟨_, _, p1, _⟩ := I.tuple h1; obtain ⟨_, _, p, _⟩ := I.list h2.sq; exact SeqAt.RcNeAt.tuple_list p1 p.isList (by omega)
  · subst e; cases rw'; cases ru; rename_i h2 r2; obtain ⟨_, _, p, _⟩ := I.list h2.sq; exact SeqAt.RcNeAt.list_none p.isList (by omega)
  · subst e; cases rw'; cases ru; rename_i h2 r2 _; obtain ⟨_, _, p, _⟩ := I.list h2.sq; exact SeqAt.RcNeAt.list_bool _ p.isList (by omega)
  · subst e; obtain ⟨tr, rfl⟩ := rw'; cases ru; rename_i h2 r2 _; obtain ⟨_, _, p, _⟩ := I.list h2.sq; exact SeqAt.RcNeAt.list_int _ _ p.isList (by omega)
  · subst e; obtain ⟨tr, rfl⟩ := rw'; cases ru; rename_i h2 r2 _; obtain ⟨_, _, p, _⟩ := I.list h2.sq; exact SeqAt.RcNeAt.list_str _ _ p.isList (by omega)
  · subst e; cases ru; cases rw'; rename_i h1 r1 _ _ _ h2 r2; obtain ⟨_, _, p1, _⟩ := I.list h1.sq; obtain ⟨_, _, p, _⟩ := I.tuple h2; exact SeqAt.RcNeAt.list_tuple p1.isList p (by omega)
  · cases ru; cases rw'; rename_i h1 r1 _ _ _ h2 r2; exact seqNeL I n h1.sq r1 h2.sq r2 e (by simp only [dep] at hn; omega) hu
end
end Lr


namespace Lr
open PySem PySem.Spec L2
open PyProof.Rows hiding St


def lsOf (μ : Store) : AV → Option (List AV)
  | .lst xs => some xs
  | .loc n => match μ[n]? with
    | some (.lst xs) => some xs
    | _ => none
  | _ => none
@[simp] theorem lsOf_lst (μ : Store) (xs : List AV) : lsOf μ (.lst xs) = some xs := rfl
section
variable {κ : Kap} {X : Cx} {K : PySem.W.Frag} {ι : List Addr} {H : Hp} {μ : Store}
theorem ls_rel (sr : SR K κ ι μ H) {a : AV} {x : V} {xs : List AV} (r : Rel K κ ι H a x) (e : lsOf μ a = some xs) : ∃ p vs, x = .ref p ∧ SqL K H p vs ∧ RelL K κ ι H xs vs := by
  cases r with
  | lst h r => cases e; exact ⟨_, _, rfl, h.sq, r⟩
  | loc h =>
    rename_i n p
    simp only [lsOf] at e
    cases q : μ[n]? with
    | none => rw [q] at e; cases e
    | some o =>
      rw [q] at e
      cases o <;> first | (cases e; done) | skip
      cases e
      obtain ⟨vs, e1, r1⟩ := sr.obj n _ p q h
      exact ⟨p, vs, rfl, .inl (.inl e1), r1⟩
  | _ => cases e
end
def eqB (x y : AV) (μ : Store) : Option Bool := match lsOf μ x, lsOf μ y with
  | some xs, some ys => if xs.length = ys.length then eqvL xs ys else some false
  | _, _ => eqv x y
def depM (μ : Store) (x : AV) : Nat := match lsOf μ x with
  | some xs => depL xs + 1
  | none => dep x
def gEq : G2 := fun x y μ => match eqB x y μ with
  | some r => if min (depM μ x) (depM μ y) ≤ 150 then .ok (.bl r) μ else .bad
  | none => .bad
def gNe : G2 := fun x y μ => match eqB x y μ with
  | some r => if min (depM μ x) (depM μ y) ≤ 150 then .ok (.bl (!r)) μ else .bad
  | none => .bad
section
variable {κ : Kap} {X : Cx} {a b c e : Expr} {ra rb rc r : AE} {pos : Pos} {g : G2} {k : Nat}
theorem lsOf_dep {μ : Store} {x : AV} (h : ∀ n, x ≠ .loc n) : depM μ x = dep x := by
  unfold depM
  cases x <;> first | rfl | (exact absurd rfl (h _))
theorem room_eq (c : Cl X k) : X.A.units + 150 < cLine := by have := c.room.un; omega
theorem eqv_loc {a b : AV} {r : Bool} (e : eqv a b = some r) : (∀ n, a ≠ .loc n) ∧ (∀ n, b ≠ .loc n) := by
  constructor
  · rintro n rfl
    cases b <;> (simp only [eqv] at e; cases e)
  · rintro n rfl
    cases a <;> (simp only [eqv] at e; cases e)
theorem op_gEq (c : Cl X k) : OpA κ X (compareOp .Eq) gEq := fun W tk pins s σ H x y v u Q I rx ry hh => by
  obtain ⟨σ0, ι, μ, a, b, sr, ra, rb, h⟩ := hh
  unfold gEq at h
  split at h
  · rename_i r er
    by_cases hd : min (depM μ a) (depM μ b) ≤ 150
    · rw [if_pos hd] at h
      have fin : EP X pins σ Q (.bool r) s := ⟨.bl r, H, I, rfl, ok1 sr h (.bl _)⟩
      have hu := room_eq c
      unfold eqB at er
      split at er
      · rename_i xs ys e1 e2
        obtain ⟨p, vs, rfl, h1, r1⟩ := ls_rel sr ra e1
        obtain ⟨q, ws, rfl, h2, r2⟩ := ls_rel sr rb e2
        cases rx
        cases ry
        unfold depM at hd
        rw [e1, e2] at hd
        exact seqL I 150 h1 r1 h2 r2 er (by simp only at hd; omega) hu X.prog X.w X.xe _ fin
      · obtain ⟨n1, n2⟩ := eqv_loc er
        rw [lsOf_dep n1, lsOf_dep n2] at hd
        exact rc_rel I 150 a b x y v u r X.A hd ra rb rx ry er hu X.prog X.w X.xe _ fin
    · rw [if_neg hd] at h
      exact False.elim h
  · exact False.elim h
theorem op_gNe (c : Cl X k) : OpA κ X (compareOp .NotEq) gNe := fun W tk pins s σ H x y v u Q I rx ry hh => by
  obtain ⟨σ0, ι, μ, a, b, sr, ra, rb, h⟩ := hh
  unfold gNe at h
  split at h
  · rename_i r er
    by_cases hd : min (depM μ a) (depM μ b) ≤ 150
    · rw [if_pos hd] at h
      have fin : EP X pins σ Q (.bool (!r)) s := ⟨.bl (!r), H, I, rfl, ok1 sr h (.bl _)⟩
      have hu := room_eq c
      unfold eqB at er
      split at er
      · rename_i xs ys e1 e2
        obtain ⟨p, vs, rfl, h1, r1⟩ := ls_rel sr ra e1
        obtain ⟨q, ws, rfl, h2, r2⟩ := ls_rel sr rb e2
        cases rx
        cases ry
        unfold depM at hd
        rw [e1, e2] at hd
        exact seqNeL I 150 h1 r1 h2 r2 er (by simp only at hd; omega) hu X.prog X.w X.xe _ fin
      · obtain ⟨n1, n2⟩ := eqv_loc er
        rw [lsOf_dep n1, lsOf_dep n2] at hd
        exact rcNe_rel I 150 a b x y v u r X.A hd ra rb rx ry er hu X.prog X.w X.xe _ fin
    · rw [if_neg hd] at h
      exact False.elim h
  · exact False.elim h
end


mutual
def isD : AV → Bool
  | .non => true | .bl _ => true | .int _ => true | .str _ => true
  | .tup xs => isDL xs
  | .lst xs => isDL xs
  | .dct kvs => isDD kvs
  | .loc _ => false | .obj _ => false | .scr _ => false | .ty _ => false
def isDL : List AV → Bool
  | [] => true
  | x :: xs => isD x && isDL xs
def isDD : List (AV × AV) → Bool
  | [] => true
  | (x, y) :: xs => isD x && isD y && isDD xs
end
section
variable {κ : Kap} {X : Cx} {pins : List (Addr × Obj)} {σ : St} {H : Hp} {s : Shared} {ι : List Addr}
theorem dct_seq (I : Inv X pins σ H s) {a : Addr} {o : Obj} {es : Array DictEntry} {ep : Nat} (h : H a = some (.frz o (.ext fun h => h.get? a = some o))) (ho : o.ExactDict) (hd : o.data = .dict es ep) {its : Array Value} {n : Nat} {o' : Obj} (g : s.heap.get? a = some o') (hd' : o'.data = .seq its n) : False := by
  obtain ⟨e, _⟩ := I.hok a _ h
  rw [e] at g
  cases g
  rw [hd] at hd'
  cases hd'
mutual
theorem rel_fun (I : Inv X pins σ H s) : ∀ (a b : AV) (x : V), isD a = true → isD b = true → Rel X.K κ ι H a x → Rel X.K κ ι H b x → a = b
  | .non, b, x, _, hb, h, g => by cases h; cases g; rfl
  | .bl _, b, x, _, hb, h, g => by cases h; cases g; rfl
  | .int _, b, x, _, hb, h, g => by cases h; cases g; rfl
  | .str _, b, x, _, hb, h, g => by cases h; cases g; rfl
  | .tup xs, b, x, ha, hb, h, g => by
    cases h with
    | tup h1 r1 =>
      obtain ⟨its1, _, ⟨o1, g1, c1, n1, d1⟩, _⟩ := I.tuple h1
      cases g with
      | tup h2 r2 =>
        have ev := I.tuple_inj h1 h2
        subst ev
        rw [rel_funL I xs _ _ (by simpa [isD] using ha) (by simpa [isD] using hb) r1 r2]
      | lst h2 r2 =>
        obtain ⟨_, _, ⟨o2, n2, g2, c2, _⟩, _⟩ := I.list h2.sq
        rw [g1] at g2; cases g2; rw [c1] at c2
        injection c2 with q
        exact absurd q (by decide)
      | dct h2 ho hd hn r2 => exact (dct_seq I h2 ho hd g1 d1).elim
      | loc _ => cases hb
      | obj _ => cases hb
      | scr _ => cases hb
  | .lst xs, b, x, ha, hb, h, g => by
    cases h with
    | lst h1 r1 =>
      obtain ⟨its1, _, ⟨o1, n1, g1, c1, _, d1⟩, _⟩ := I.list h1.sq
      cases g with
      | tup h2 r2 =>
        obtain ⟨_, _, ⟨o2, g2, c2, _⟩, _⟩ := I.tuple h2
        rw [g1] at g2; cases g2; rw [c1] at c2
        injection c2 with q
        exact absurd q (by decide)
      | lst h2 r2 =>
        have ev := I.list_inj h1.sq h2.sq
        subst ev
        rw [rel_funL I xs _ _ (by simpa [isD] using ha) (by simpa [isD] using hb) r1 r2]
      | dct h2 ho hd hn r2 => exact (dct_seq I h2 ho hd g1 d1).elim
      | loc _ => cases hb
      | obj _ => cases hb
      | scr _ => cases hb
  | .dct xs, b, x, ha, hb, h, g => by
    cases h with
    | dct h1 ho hd hn r1 =>
      cases g with
      | tup h2 r2 => obtain ⟨its1, _, ⟨o1, g1, c1, n1, d1⟩, _⟩ := I.tuple h2; exact (dct_seq I h1 ho hd g1 d1).elim
      | lst h2 r2 => obtain ⟨its1, _, ⟨o1, n1, g1, c1, _, d1⟩, _⟩ := I.list h2.sq; exact (dct_seq I h1 ho hd g1 d1).elim
      | dct h2 ho2 hd2 hn2 r2 =>
        rw [h1] at h2
        injection h2 with h2
        injection h2 with h2
        subst h2
        rw [hd] at hd2
        injection hd2 with e1 e2
        subst e1
        rw [rel_funD I xs _ _ (by simpa [isD] using ha) (by simpa [isD] using hb) r1 r2]
      | loc _ => cases hb
      | obj _ => cases hb
      | scr _ => cases hb
  | .loc _, _, _, ha, _, _, _ => by cases ha
  | .obj _, _, _, ha, _, _, _ => by cases ha
  | .scr _, _, _, ha, _, _, _ => by cases ha
  | .ty _, _, _, ha, _, _, _ => by cases ha
theorem rel_funL (I : Inv X pins σ H s) : ∀ (as bs : List AV) (xs : List V), isDL as = true → isDL bs = true → RelL X.K κ ι H as xs → RelL X.K κ ι H bs xs → as = bs
  | [], bs, xs, _, _, h, g => by cases h; cases g; rfl
  | a :: as, bs, xs, ha, hb, h, g => by
    cases h with
    | cons h1 h2 =>
      cases g with
      | cons g1 g2 =>
        simp only [isDL, Bool.and_eq_true] at ha hb
        rw [rel_fun I a _ _ ha.1 hb.1 h1 g1, rel_funL I as _ _ ha.2 hb.2 h2 g2]
theorem rel_funD (I : Inv X pins σ H s) : ∀ (as bs : List (AV × AV)) (xs : List DictEntry), isDD as = true → isDD bs = true → RelD X.K κ ι H as xs → RelD X.K κ ι H bs xs → as = bs
  | [], bs, xs, _, _, h, g => by cases h; cases g; rfl
  | (a, a') :: as, bs, xs, ha, hb, h, g => by
    cases h with
    | cons h1 v1 h2 v2 h3 =>
      cases g with
      | cons g1 w1 g2 w2 g3 =>
        simp only [isDD, Bool.and_eq_true] at ha hb
        have e1 := v1.inj w1
        have e2 := v2.inj w2
        subst e1 e2
        rw [rel_fun I a _ _ ha.1.1 hb.1.1 h1 g1, rel_fun I a' _ _ ha.1.2 hb.1.2 h2 g2, rel_funD I as _ _ ha.2 hb.2 h3 g3]
end
end



def anyEq (x : AV) : List AV → Option Bool
  | [] => some false
  | y :: ys => match eqv y x, anyEq x ys with
    | some a, some b => some (a || b)
    | _, _ => none
def seqOf (μ : Store) : AV → Option (List AV)
  | .tup xs => some xs
  | v => lsOf μ v
def inB (x y : AV) (μ : Store) : Option Bool := match x, y with
  | .str a, .str b => if a.length = 1 then some (decide (a.cps.getD 0 0 ∈ b.cps.toList)) else none
  | x, y => match seqOf μ y with
    | some ys => if isD x && isDL ys && decide (dep x ≤ 140) then anyEq x ys else none
    | none => none
def gIn : G2 := fun x y μ => match inB x y μ with
  | some r => .ok (.bl r) μ
  | none => .bad
def gNotIn : G2 := fun x y μ => match inB x y μ with
  | some r => .ok (.bl (!r)) μ
  | none => .bad
end Lr


namespace Lr
open PySem PySem.Spec L2
open PyProof.Rows hiding St

theorem anyEq_some : ∀ {x : AV} {ys : List AV} {r : Bool}, anyEq x ys = some r → (∀ y ∈ ys, ∃ b, eqv y x = some b) ∧ (r = true ↔ ∃ y ∈ ys, eqv y x = some true)
  | x, [], r, e => by simp [anyEq] at e; subst e; simp
  | x, y :: ys, r, e => by
    unfold anyEq at e
    cases q1 : eqv y x with
    | none => rw [q1] at e; cases e
    | some a =>
      cases q2 : anyEq x ys with
      | none => rw [q1, q2] at e; cases e
      | some b =>
        rw [q1, q2] at e
        cases e
        obtain ⟨h1, h2⟩ := anyEq_some q2
        refine ⟨fun z hz => ?_, ?_⟩
        · rcases List.mem_cons.mp hz with rfl | hz
          · exact ⟨a, q1⟩
          · exact h1 z hz
        · cases a with
          | true => simp [q1]
          | false => simp [q1, h2]
section
variable {κ : Kap} {X : Cx} {a b c e : Expr} {ra rb rc r : AE} {pos : Pos} {g g' : G2} {k : Nat}
variable {pins : List (Addr × Obj)} {σ : St} {H : Hp} {s : Shared} {ι : List Addr}
open Classical in
theorem in_items (I : Inv X pins σ H s) {x : AV} {xv : V} {u : Value} {ys : List AV} {vs : List V} {its : List Value} {r : Bool} {A : Around} (hx : isD x = true) (hy : isDL ys = true) (hd : dep x ≤ 140) (rx : Rel X.K κ ι H x xv) (ru : RelV xv u)
    (rl : RelL X.K κ ι H ys vs) (rv : Vals vs its) (h : anyEq x ys = some r) (hu : A.units + 140 < cLine) : ∃ e : Value → Bool, (∀ y, y ∈ its.toArray → SeqAt.EqAt A s y u (e y)) ∧ its.toArray.any e = r := by
  obtain ⟨h1, h2⟩ := anyEq_some h
  have dm : ∀ {y : AV}, y ∈ ys → isD y = true := by
    intro y hm
    clear h1 h2 h rl
    induction ys with
    | nil => cases hm
    | cons z zs ih =>
      simp only [isDL, Bool.and_eq_true] at hy
      rcases List.mem_cons.mp hm with rfl | hm
      · exact hy.1
      · exact ih hy.2 hm
  refine ⟨fun w => decide (∃ y v, y ∈ ys ∧ Rel X.K κ ι H y v ∧ RelV v w ∧ eqv y x = some true), fun w hw => ?_, ?_⟩
  · have hw : w ∈ its := by simpa using hw
    obtain ⟨j, hj⟩ := List.mem_iff_getElem?.mp hw
    obtain ⟨v, ev⟩ : ∃ v, vs[j]? = some v := by
      have : j < vs.length := by rw [rv.length]; exact (List.getElem?_eq_some_iff.mp hj).1
      exact ⟨_, List.getElem?_eq_getElem this⟩
    obtain ⟨w', ew, rw'⟩ := rv.get ev
    rw [hj] at ew; cases ew
    obtain ⟨y, ey, ry⟩ := rl.get' ev
    have hm := List.mem_of_getElem? ey
    obtain ⟨b, eb⟩ := h1 y hm
    have key : decide (∃ y v, y ∈ ys ∧ Rel X.K κ ι H y v ∧ RelV v w ∧ eqv y x = some true) = b := by
      cases b with
      | true => exact decide_eq_true ⟨y, v, hm, ry, rw', eb⟩
      | false =>
        refine decide_eq_false ?_
        rintro ⟨y', v', hm', ry', rv', eb'⟩
        have := rv'.inj rw'
        subst this
        have := rel_fun I y' y _ (dm hm') (dm hm) ry' ry
        subst this
        rw [eb] at eb'
        cases eb'
    show SeqAt.EqAt A s w u (decide _)
    rw [key]
    exact eqAt_rel I 140 y x v xv w u b A (Nat.le_trans (Nat.min_le_right _ _) hd) ry rx rw' ru eb hu
  · have e1 : (its.toArray.any fun w => decide (∃ y v, y ∈ ys ∧ Rel X.K κ ι H y v ∧ RelV v w ∧ eqv y x = some true)) = true ↔ r = true := by
      rw [h2]
      simp only [List.any_toArray, List.any_eq_true, decide_eq_true_eq]
      constructor
      · rintro ⟨w, _, y, v, hm, _, _, eb⟩
        exact ⟨y, hm, eb⟩
      · rintro ⟨y, hm, eb⟩
        obtain ⟨j, hj⟩ := List.mem_iff_getElem?.mp hm
        obtain ⟨v, ev, rv1⟩ := rl.get hj
        obtain ⟨w, ew, rw1⟩ := rv.get ev
        exact ⟨w, List.mem_of_getElem? ew, y, v, hm, rv1, rw1, eb⟩
    cases r with
    | true => exact e1.mpr rfl
    | false =>
      cases q : its.toArray.any fun w => decide (∃ y v, y ∈ ys ∧ Rel X.K κ ι H y v ∧ RelV v w ∧ eqv y x = some true) with
      | false => rfl
      | true => exact (e1.mp q).symm
theorem str_one {a : Str} (h : a.length = 1) : a = ⟨#[a.cps.getD 0 0]⟩ := by
  obtain ⟨cs⟩ := a
  obtain ⟨l⟩ := cs
  match l, h with
  | [c], _ => rfl
theorem seqOf_rel {μ : Store} (sr : SR X.K κ ι μ H) {y : AV} {v : V} {ys : List AV} (ry : Rel X.K κ ι H y v) (e : seqOf μ y = some ys) : ∃ p vs, v = .ref p ∧ (SqL X.K H p vs ∨ SqT X.K H p vs) ∧ RelL X.K κ ι H ys vs := by
  cases ry with
  | tup h r => cases e; exact ⟨_, _, rfl, .inr h, r⟩
  | lst h r => obtain ⟨p, vs, e1, h1, r1⟩ := ls_rel sr (.lst h r) e; exact ⟨p, vs, e1, .inl h1, r1⟩
  | loc h => obtain ⟨p, vs, e1, h1, r1⟩ := ls_rel sr (.loc h) e; exact ⟨p, vs, e1, .inl h1, r1⟩
  | _ => cases e
theorem inB_cases {x y : AV} {μ : Store} {r : Bool} (h : inB x y μ = some r) : (∃ a b, x = .str a ∧ y = .str b ∧ a.length = 1 ∧ r = decide (a.cps.getD 0 0 ∈ b.cps.toList)) ∨
    ∃ ys, seqOf μ y = some ys ∧ isD x = true ∧ isDL ys = true ∧ dep x ≤ 140 ∧ anyEq x ys = some r := by
  unfold inB at h
  split at h
  · rename_i a b
    by_cases hl : a.length = 1
    · rw [if_pos hl] at h
      exact .inl ⟨a, b, rfl, rfl, hl, (Option.some.inj h).symm⟩
    · rw [if_neg hl] at h; cases h
  · split at h
    · rename_i ys e1
      by_cases hc : (isD x && isDL ys && decide (dep x ≤ 140)) = true
      · rw [if_pos hc] at h
        simp only [Bool.and_eq_true, decide_eq_true_eq] at hc
        exact .inr ⟨ys, e1, hc.1.1, hc.1.2, hc.2, h⟩
      · rw [if_neg hc] at h; cases h
    · cases h
theorem op_gIn (cl : Cl X k) : OpA κ X (compareOp .In) gIn := fun W tk pins s σ H x y v u Q I rx ry hh => by
  obtain ⟨σ0, ι, μ, a, b, sr, ra, rb, h⟩ := hh
  unfold gIn at h
  have hu : X.A.in1.units + 140 < cLine := by have := cl.room.un; show X.A.units + 1 + 140 < cLine; omega
  split at h
  · rename_i r er
    rcases inB_cases er with ⟨a', b', rfl, rfl, hl, rfl⟩ | ⟨ys, e1, h1, h2, h3, h4⟩
    · cases ra; cases rb
      rw [str_one hl] at rx
      exact op_in_sign pins s σ H _ _ v u Q I rx ry ⟨_, _, rfl, rfl, ok1 sr h (.bl _)⟩
    · obtain ⟨p, vs, rfl, hq, rl⟩ := seqOf_rel sr rb e1
      cases ry
      rcases hq with hq | hq
      · obtain ⟨its, rv, pl, hz⟩ := I.list hq
        obtain ⟨e, he, hr⟩ := in_items I h1 h2 h3 ra rx rl rv h4 hu
        exact SeqAt.in_listAt e pl.isList he ⟨.bl _, H, I, rfl, by rw [hr]; exact ok1 sr h (.bl _)⟩
      · obtain ⟨its, rv, pl, hz⟩ := I.tuple hq
        obtain ⟨e, he, hr⟩ := in_items I h1 h2 h3 ra rx rl rv h4 hu
        exact SeqAt.in_tupleAt e pl he ⟨.bl _, H, I, rfl, by rw [hr]; exact ok1 sr h (.bl _)⟩
  · exact False.elim h
theorem op_gNotIn (cl : Cl X k) : OpA κ X (compareOp .NotIn) gNotIn := fun W tk pins s σ H x y v u Q I rx ry hh => by
  obtain ⟨σ0, ι, μ, a, b, sr, ra, rb, h⟩ := hh
  unfold gNotIn at h
  have hu : X.A.in1.units + 140 < cLine := by have := cl.room.un; show X.A.units + 1 + 140 < cLine; omega
  split at h
  · rename_i r er
    rcases inB_cases er with ⟨a', b', rfl, rfl, hl, rfl⟩ | ⟨ys, e1, h1, h2, h3, h4⟩
    · cases ra; cases rb
      rw [str_one hl] at rx
      exact op_notIn_sign pins s σ H _ _ v u Q I rx ry ⟨_, _, rfl, rfl, ok1 sr h (.bl _)⟩
    · obtain ⟨p, vs, rfl, hq, rl⟩ := seqOf_rel sr rb e1
      cases ry
      rcases hq with hq | hq
      · obtain ⟨its, rv, pl, hz⟩ := I.list hq
        obtain ⟨e, he, hr⟩ := in_items I h1 h2 h3 ra rx rl rv h4 hu
        exact SeqAt.notIn_listAt e pl.isList he ⟨.bl _, H, I, rfl, by rw [hr]; exact ok1 sr h (.bl _)⟩
      · obtain ⟨its, rv, pl, hz⟩ := I.tuple hq
        obtain ⟨e, he, hr⟩ := in_items I h1 h2 h3 ra rx rl rv h4 hu
        exact SeqAt.notIn_tupleAt e pl he ⟨.bl _, H, I, rfl, by rw [hr]; exact ok1 sr h (.bl _)⟩
  · exact False.elim h



def tB1 (r : AE) : AT := fun ρ μ => (r ρ μ).bind fun x μ1 => match x with
  | .bl k => .ok k μ1
  | _ => .bad
def truA (μ : Store) : AV → Option Bool
  | .non => some false
  | .bl k => some k
  | .int i => some (i != 0)
  | .str x => if x.length ≤ 16777216 then some ((x.length : Int) != 0) else none
  | .tup xs => some (!xs.isEmpty)
  | .lst xs => some (!xs.isEmpty)
  | .loc n => match μ[n]? with
    | some (.lst xs) => some (!xs.isEmpty)
    | _ => none
  | _ => none

def tTr (r : AE) : AT := fun ρ μ => (r ρ μ).bind fun x μ1 => match truA μ1 x with
  | some k => .ok k μ1
  | none => .bad
theorem im_b1 {K : PySem.W.Frag} {W : WX} {t : TE} (i : ImE K κ W t r) : ImT K κ W (tB t) (tB1 r) := fun σ H Q ι ρ μ sr rl h => by
  refine i σ H _ ι ρ μ sr rl (PG.bind h fun x μ1 ι1 H1 p1 m1 sr1 h1 v rv => ?_)
  cases x <;> first | exact False.elim h1 | skip
  cases rv
  exact ⟨_, rfl, h1 ι1 H1 (List.prefix_refl _) (HM.refl _) sr1⟩
theorem DT.cmp {op : CmpOp} (ho : OpA κ X (compareOp op) g) (ha : DE κ X a ra) (hb : DE κ X b rb) (hm : behindInMarks op b = false := by first | exact nomark _ | rfl) : DT κ X (.Compare a [op] [b] pos) (tB1 (eOp g ra rb)) := fun W tk => by
  obtain ⟨ta, pa, ia⟩ := ha W tk
  obtain ⟨tb, pb, ib⟩ := hb W tk
  exact ⟨_, pt_cmpR (ho W tk) pa pb hm, im_b1 (im_op ia ib)⟩
theorem DT.val (h : DE κ X e r) (he : ∀ whole, isTrue e X.env whole = (do let v ← whole; standAt e.pos; holding [v] (truthy v)) := by intro _; rfl) : DT κ X e (tB1 r) := fun W tk => by
  obtain ⟨t, p, i⟩ := h W tk
  exact ⟨_, pt_val p he, im_b1 i⟩
theorem tru_rel {μ : Store} (sr : SR X.K κ ι μ H) {x : AV} {v : V} {b : Bool} (r : Rel X.K κ ι H x v) (e : truA μ x = some b) : TruV X.K v H b := by
  cases r with
  | non => exact (Option.some.inj e).symm
  | bl k => exact (Option.some.inj e).symm
  | int i => exact (Option.some.inj e).symm
  | str y =>
    simp only [truA] at e
    split at e
    · rename_i hz
      exact ⟨by rw [line16]; exact hz, (Option.some.inj e).symm⟩
    · cases e
  | tup h r =>
    refine .inr (.inl ⟨_, h, ?_⟩)
    rw [← Option.some.inj e]
    cases r <;> rfl
  | lst h r =>
    refine .inl ⟨_, h.sq, ?_⟩
    rw [← Option.some.inj e]
    cases r <;> rfl
  | loc h =>
    rename_i n p
    simp only [truA] at e
    split at e
    · rename_i xs q
      obtain ⟨vs, e1, r1⟩ := sr.obj n _ p q h
      refine .inl ⟨vs, .inl (.inl e1), ?_⟩
      rw [← Option.some.inj e]
      cases r1 <;> rfl
    · cases e
  | _ => cases e
theorem DT.truth (h : DE κ X e r) (he : ∀ whole, isTrue e X.env whole = (do let v ← whole; standAt e.pos; holding [v] (truthy v)) := by intro _; rfl) : DT κ X e (tTr r) := fun W tk => by
  obtain ⟨t, p, i⟩ := h W tk
  refine ⟨_, pt_truth p he, fun σ H Q ι ρ μ sr rl h => ?_⟩
  refine i σ H _ ι ρ μ sr rl (PG.bind h fun x μ1 ι1 H1 p1 m1 sr1 h1 v rv => ?_)
  split at h1
  · rename_i b eb
    exact ⟨b, tru_rel sr1 rv eb, h1 ι1 H1 (List.prefix_refl _) (HM.refl _) sr1⟩
  · exact False.elim h1
def tNt (t : AT) : AT := fun ρ μ => (t ρ μ).bind fun b μ1 => .ok (!b) μ1
def tAn (t u : AT) : AT := fun ρ μ => (t ρ μ).bind fun b μ1 => if b then u ρ μ1 else .ok false μ1
def tOrr (t u : AT) : AT := fun ρ μ => (t ρ μ).bind fun b μ1 => if b then .ok true μ1 else u ρ μ1
variable {ta tb : AT}
theorem DT.not (h : DT κ X a ta) : DT κ X (.UnaryOp .Not a pos) (tNt ta) := fun W tk => by
  obtain ⟨t, p, i⟩ := h W tk
  refine ⟨_, pt_not p, fun σ H Q ι ρ μ sr rl h => ?_⟩
  exact i σ H _ ι ρ μ sr rl (PG.bind h fun b μ1 ι1 H1 p1 m1 sr1 h1 => h1 ι1 H1 (List.prefix_refl _) (HM.refl _) sr1)

def DW (κ : Kap) (X : Cx) (e : Expr) (r : AT) : Prop := ∀ W : WX, Takes X W → ∃ t, PW X e t ∧ ImT X.K κ W t r
variable {rest : List Expr}
theorem DW.t (h : DW κ X e ta) : DT κ X e ta := fun W tk => let ⟨t, p, i⟩ := h W tk; ⟨t, p.pt, i⟩
theorem DW.and1 (h : DT κ X a ta) : DW κ X (.BoolOp .And [a] pos) ta := fun W tk => let ⟨t, p, i⟩ := h W tk; ⟨t, pw_and1 p, i⟩
theorem DW.or1 (h : DT κ X a ta) : DW κ X (.BoolOp .Or [a] pos) ta := fun W tk => let ⟨t, p, i⟩ := h W tk; ⟨t, pw_or1 p, i⟩
theorem DW.and (ha : DT κ X a ta) (hb : DW κ X (.BoolOp .And (b :: rest) pos) tb) : DW κ X (.BoolOp .And (a :: b :: rest) pos) (tAn ta tb) := fun W tk => by
  obtain ⟨t, p, i⟩ := ha W tk
  obtain ⟨u, q, j⟩ := hb W tk
  refine ⟨_, pw_and p q, fun σ H Q ι ρ μ sr rl h => ?_⟩
  refine i σ H _ ι ρ μ sr rl (PG.bind h fun b μ1 ι1 H1 p1 m1 sr1 h1 => ?_)
  cases b with
  | true => exact iteT (j σ H1 Q ι1 ρ μ1 sr1 (rl.mono p1 m1) h1)
  | false => exact iteF (h1 ι1 H1 (List.prefix_refl _) (HM.refl _) sr1)
theorem DW.or (ha : DT κ X a ta) (hb : DW κ X (.BoolOp .Or (b :: rest) pos) tb) : DW κ X (.BoolOp .Or (a :: b :: rest) pos) (tOrr ta tb) := fun W tk => by
  obtain ⟨t, p, i⟩ := ha W tk
  obtain ⟨u, q, j⟩ := hb W tk
  refine ⟨_, pw_or p q, fun σ H Q ι ρ μ sr rl h => ?_⟩
  refine i σ H _ ι ρ μ sr rl (PG.bind h fun b μ1 ι1 H1 p1 m1 sr1 h1 => ?_)
  cases b with
  | true => exact iteT (h1 ι1 H1 (List.prefix_refl _) (HM.refl _) sr1)
  | false => exact iteF (j σ H1 Q ι1 ρ μ1 sr1 (rl.mono p1 m1) h1)


def eAn (a b : AE) : AE := fun ρ μ => (a ρ μ).bind fun x μ1 => match x with
  | .bl true => b ρ μ1
  | .bl false => .ok (.bl false) μ1
  | _ => .bad
def eOr (a b : AE) : AE := fun ρ μ => (a ρ μ).bind fun x μ1 => match x with
  | .bl true => .ok (.bl true) μ1
  | .bl false => b ρ μ1
  | _ => .bad
def eNt (a : AE) : AE := fun ρ μ => (a ρ μ).bind fun x μ1 => match x with
  | .bl k => .ok (.bl (!k)) μ1
  | _ => .bad
theorem DE.one {op : BoolOp} (h : DE κ X a ra) : DE κ X (.BoolOp op [a] pos) ra := fun W tk => let ⟨t, p, i⟩ := h W tk; ⟨t, pe_one p, i⟩
theorem DE.and (ha : DE κ X a ra) (hb : DE κ X (.BoolOp .And (b :: rest) pos) rb) : DE κ X (.BoolOp .And (a :: b :: rest) pos) (eAn ra rb) := fun W tk => by
  obtain ⟨t, p, i⟩ := ha W tk
  obtain ⟨u, q, j⟩ := hb W tk
  refine ⟨_, pe_and p q, fun σ H Q ι ρ μ sr rl h => ?_⟩
  refine i σ H _ ι ρ μ sr rl (PG.bind h fun x μ1 ι1 H1 p1 m1 sr1 h1 v rv => ?_)
  cases x <;> first | exact False.elim h1 | skip
  rename_i b
  cases rv
  refine ⟨b, rfl, ?_⟩
  cases b with
  | true => exact iteT (j σ H1 Q ι1 ρ μ1 sr1 (rl.mono p1 m1) h1)
  | false => exact iteF (ok1 sr1 h1 (.bl _))
theorem DE.or (ha : DE κ X a ra) (hb : DE κ X (.BoolOp .Or (b :: rest) pos) rb) : DE κ X (.BoolOp .Or (a :: b :: rest) pos) (eOr ra rb) := fun W tk => by
  obtain ⟨t, p, i⟩ := ha W tk
  obtain ⟨u, q, j⟩ := hb W tk
  refine ⟨_, pe_or p q, fun σ H Q ι ρ μ sr rl h => ?_⟩
  refine i σ H _ ι ρ μ sr rl (PG.bind h fun x μ1 ι1 H1 p1 m1 sr1 h1 v rv => ?_)
  cases x <;> first | exact False.elim h1 | skip
  rename_i b
  cases rv
  refine ⟨b, rfl, ?_⟩
  cases b with
  | true => exact iteT (ok1 sr1 h1 (.bl _))
  | false => exact iteF (j σ H1 Q ι1 ρ μ1 sr1 (rl.mono p1 m1) h1)
theorem DE.not (ha : DE κ X a ra) : DE κ X (.UnaryOp .Not a pos) (eNt ra) := fun W tk => by
  obtain ⟨t, p, i⟩ := ha W tk
  refine ⟨_, pe_not p, fun σ H Q ι ρ μ sr rl h => ?_⟩
  refine i σ H _ ι ρ μ sr rl (PG.bind h fun x μ1 ι1 H1 p1 m1 sr1 h1 v rv => ?_)
  cases x <;> first | exact False.elim h1 | skip
  cases rv
  exact ⟨_, rfl, ok1 sr1 h1 (.bl _)⟩
def eIf (t : AT) (a b : AE) : AE := fun ρ μ => (t ρ μ).bind fun k μ1 => if k then a ρ μ1 else b ρ μ1
theorem DE.ifx {t : Expr} (ht : DT κ X t ta) (ha : DE κ X a ra) (hb : DE κ X b rb) : DE κ X (.IfExp t a b pos) (eIf ta ra rb) := fun W tk => by
  obtain ⟨t0, p0, i0⟩ := ht W tk
  obtain ⟨t1, p1, i1⟩ := ha W tk
  obtain ⟨t2, p2, i2⟩ := hb W tk
  refine ⟨_, pe_ifExp p0 p1 p2, fun σ H Q ι ρ μ sr rl h => ?_⟩
  refine i0 σ H _ ι ρ μ sr rl (PG.bind h fun b μ1 ι1 H1 p1 m1 sr1 h1 => ?_)
  cases b with
  | true => exact iteT (i1 σ H1 Q ι1 ρ μ1 sr1 (rl.mono p1 m1) h1)
  | false => exact iteF (i2 σ H1 Q ι1 ρ μ1 sr1 (rl.mono p1 m1) h1)
def eChain (g g' : G2) (a b c : AE) : AE := fun ρ μ => (a ρ μ).bind fun x μ1 => (b ρ μ1).bind fun y μ2 => (g x y μ2).bind fun z μ3 => match z with
  | .bl true => (c ρ μ3).bind fun w μ4 => g' y w μ4
  | .bl false => .ok (.bl false) μ3
  | _ => .bad
theorem im_chain {K : PySem.W.Frag} {W : WX} {t1 t2 t3 : TE} (i1 : ImE K κ W t1 ra) (i2 : ImE K κ W t2 rb) (i3 : ImE K κ W t3 rc) : ImE K κ W (tChain (rA K κ W g) (rA K κ W g') t1 t2 t3) (eChain g g' ra rb rc) := fun σ H Q ι ρ μ sr rl h => by
  refine i1 σ H _ ι ρ μ sr rl (PG.bind h fun x μ1 ι1 H1 p1 m1 sr1 h1 v rv => ?_)
  refine i2 σ H1 _ ι1 ρ μ1 sr1 (rl.mono p1 m1) (PG.bind h1 fun y μ2 ι2 H2 p2 m2 sr2 h2 u ru => ?_)
  refine ⟨σ, ι2, μ2, x, y, sr2, rv.mono p2 m2, ru, PG.bind h2 fun z μ3 ι3 H3 p3 m3 sr3 h3 w rw' => ?_⟩
  cases z <;> first | exact False.elim h3 | skip
  rename_i b
  cases rw'
  refine ⟨b, rfl, ?_⟩
  cases b with
  | true =>
    refine iteT (i3 σ H3 _ ι3 ρ μ3 sr3 (rl.mono ((p1.trans p2).trans p3) ((m1.trans m2).trans m3)) (PG.bind h3 fun z μ4 ι4 H4 p4 m4 sr4 h4 w rw4 => ?_))
    exact ⟨σ, ι4, μ4, y, z, sr4, ru.mono (p3.trans p4) (m3.trans m4), rw4, h4⟩
  | false => exact iteF (ok1 sr3 h3 (.bl _))
theorem DE.chain {op op' : CmpOp} (ho : OpA κ X (compareOp op) g) (ho' : OpA κ X (compareOp op') g') (ha : DE κ X a ra) (hb : DE κ X b rb) (hc : DE κ X c rc) (hm : lastMarks [op, op'] [b, c] = false := by with_unfolding_all rfl) :
    DE κ X (.Compare a [op, op'] [b, c] pos) (eChain g g' ra rb rc) := fun W tk => by
  obtain ⟨t1, p1, i1⟩ := ha W tk
  obtain ⟨t2, p2, i2⟩ := hb W tk
  obtain ⟨t3, p3, i3⟩ := hc W tk
  exact ⟨_, pe_chain (ho W tk) (ho' W tk) p1 p2 p3 hm, im_chain i1 i2 i3⟩
theorem DT.chain {op op' : CmpOp} (ho : OpA κ X (compareOp op) g) (ho' : OpA κ X (compareOp op') g') (ha : DE κ X a ra) (hb : DE κ X b rb) (hc : DE κ X c rc) (hm : lastMarks [op, op'] [b, c] = false := by with_unfolding_all rfl) :
    DT κ X (.Compare a [op, op'] [b, c] pos) (tB1 (eChain g g' ra rb rc)) := fun W tk => by
  obtain ⟨t1, p1, i1⟩ := ha W tk
  obtain ⟨t2, p2, i2⟩ := hb W tk
  obtain ⟨t3, p3, i3⟩ := hc W tk
  exact ⟨_, pt_chain (ho W tk) (ho' W tk) p1 p2 p3 hm, im_b1 (im_chain i1 i2 i3)⟩
end
end Lr


namespace Lr
open PySem PySem.Spec L2
open PyProof.Rows hiding St


def IxA (κ : Kap) (X : Cx) (g : G2) : Prop := ∀ W, Takes X W → IxR X (rA X.K κ W g)
def gIx : G2 := fun x y μ => match y with
  | .int i => match x with
    | .str z => if z.length ≤ 16777216 then (match atI z.cps.toList i with
      | some c => .ok (.str ⟨#[c]⟩) μ
      | none => .bad) else .bad
    | .scr ns => match atI ns i with
      | some n => .ok (.int n) μ
      | none => .bad
    | x => match seqOf μ x with
      | some xs => match atI xs i with
        | some v => .ok v μ
        | none => .bad
      | none => .bad
  | _ => .bad
section
variable {κ : Kap} {X : Cx} {a b c e : Expr} {ra rb rc r : AE} {pos p2 : Pos} {g g' : G2} {k : Nat} {es : List Expr} {rs : AA}
theorem atI_rel {K : PySem.W.Frag} {ι : List Addr} {H : Hp} {xs : List AV} {vs : List V} {i : Int} {x : AV} (r : RelL K κ ι H xs vs) (e : atI xs i = some x) : ∃ v, atI vs i = some v ∧ Rel K κ ι H x v := by
  unfold atI at e ⊢
  rw [← r.length]
  cases q : ixN xs.length i with
  | none => rw [q] at e; cases e
  | some j =>
    rw [q] at e
    exact r.get e
theorem ix_gIx : IxA κ X gIx := fun W tk value slice pins s σ H x y v u Q I rx ry hh hs => by
  obtain ⟨σ0, ι, μ, a, b, sr, ra, rb, h⟩ := hh
  unfold gIx at h
  cases b <;> first | exact False.elim h | skip
  rename_i i
  cases rb
  have seq : ∀ {xs : List AV}, seqOf μ a = some xs → PG X.K κ W σ0 ι H (CV X.K κ Q) (match atI xs i with | some v => Res.ok v μ | none => .bad) → wpAny (model X.prog X.w) X.A (subscriptTail value slice v u) (EP X pins σ Q) X.xe s := fun {xs} e1 h => by
    cases q : atI xs i with
    | none => rw [q] at h; exact False.elim h
    | some z =>
      rw [q] at h
      obtain ⟨p, vs, rfl, hq, rl⟩ := seqOf_rel sr ra e1
      obtain ⟨zv, ez, rz⟩ := atI_rel rl q
      rcases hq with hq | hq
      · exact ix_list value slice pins s σ H _ _ v u Q I rx ry ⟨p, vs, i, zv, rfl, rfl, hq, ez, ok1 sr h rz⟩ hs
      · exact ix_tup value slice pins s σ H _ _ v u Q I rx ry ⟨p, vs, i, zv, rfl, rfl, hq, ez, ok1 sr h rz⟩ hs
  cases a with
  | str z =>
    cases ra
    simp only at h
    by_cases hz : z.length ≤ 16777216
    · rw [if_pos hz] at h
      cases q : atI z.cps.toList i with
      | none => rw [q] at h; exact False.elim h
      | some c =>
        rw [q] at h
        exact ix_str value slice pins s σ H _ _ v u Q I rx ry ⟨z, i, c, rfl, rfl, by rw [line16]; exact hz, q, ok1 sr h (.str _)⟩ hs
    · rw [if_neg hz] at h
      exact False.elim h
  | scr ns =>
    cases ra with
    | scr hq =>
      simp only at h
      cases q : atI ns i with
      | none => rw [q] at h; exact False.elim h
      | some n =>
        rw [q] at h
        have e2 : atI (ns.map V.int) i = some (.int n) := by
          unfold atI at q ⊢
          rw [List.length_map]
          cases q2 : ixN ns.length i with
          | none => rw [q2] at q; cases q
          | some j =>
            rw [q2] at q
            simp only [Option.bind_some] at q ⊢
            rw [List.getElem?_map, q]
            rfl
        exact ix_list value slice pins s σ H _ _ v u Q I rx ry ⟨_, _, i, _, rfl, rfl, hq.sq, e2, ok1 sr h (.int n)⟩ hs
  | tup xs => exact seq rfl h
  | lst xs => exact seq rfl h
  | loc n =>
    cases q : seqOf μ (.loc n) with
    | none => simp only [q] at h; exact False.elim h
    | some xs => simp only [q] at h; exact seq q h
  | _ => exact False.elim h
theorem DE.ix (hr : IxA κ X g) (ha : DE κ X a ra) (hb : DE κ X b rb) (hs : PlainIx b := by intro _ _; rfl) : DE κ X (.Subscript a b pos) (eOp g ra rb) := fun W tk => by
  obtain ⟨t1, p1, i1⟩ := ha W tk
  obtain ⟨t2, p2, i2⟩ := hb W tk
  exact ⟨_, pe_ix (hr W tk) p1 p2 hs, im_op i1 i2⟩


abbrev AO' := Loc → Store → Res (Option Int)
def oNone : AO' := fun _ μ => .ok none μ
def oSome (r : AE) : AO' := fun ρ μ => (r ρ μ).bind fun x μ1 => match x with
  | .int i => .ok (some i) μ1
  | _ => .bad
def DO (κ : Kap) (X : Cx) (e : Option Expr) (r : AO') : Prop := ∀ W : WX, Takes X W → ∃ t : TO, PO X e t ∧ ∀ (σ : St) (H : Hp) (Q : Option Int → Hp → Prop) (ι : List Addr) (ρ : Loc) (μ : Store), SR X.K κ ι μ H → RelS X.K κ ι H ρ σ → PG X.K κ W σ ι H (fun o _ H' => Q o H') (r ρ μ) → t σ H Q
theorem DO.none : DO κ X none oNone := fun W _ => ⟨_, po_none, fun σ H Q ι ρ μ sr rl h => h ι H (List.prefix_refl _) (HM.refl _) sr⟩
theorem DO.some (ha : DE κ X a ra) : DO κ X (some a) (oSome ra) := fun W tk => by
  obtain ⟨t, p, i⟩ := ha W tk
  refine ⟨_, po_some p, fun σ H Q ι ρ μ sr rl h => ?_⟩
  refine i σ H _ ι ρ μ sr rl (PG.bind h fun x μ1 ι1 H1 p1 m1 sr1 h1 v rv => ?_)
  cases x <;> first | exact False.elim h1 | skip
  cases rv
  exact ⟨_, rfl, h1 ι1 H1 (List.prefix_refl _) (HM.refl _) sr1⟩

def cutA {α : Type} (xs : List α) (lo hi : Option Int) : List α := (xs.drop (HT.sIx xs.length 0 lo)).take (HT.sIx xs.length xs.length hi - HT.sIx xs.length 0 lo)
def eSl (a : AE) (lo hi : AO') : AE := fun ρ μ => (a ρ μ).bind fun x μ1 => (lo ρ μ1).bind fun l μ2 => (hi ρ μ2).bind fun h μ3 => match x with
  | .tup xs => .ok (.tup (cutA xs l h)) μ3
  | .str z => if z.length ≤ 16777216 then .ok (.str ⟨(cutA z.cps.toList l h).toArray⟩) μ3 else .bad
  | _ => .bad
def aSl (a : AE) (lo hi : AO') : AA := fun ρ μ => (a ρ μ).bind fun x μ1 => (lo ρ μ1).bind fun l μ2 => (hi ρ μ2).bind fun h μ3 => match lsOf μ3 x with
  | some xs => .ok (cutA xs l h) μ3
  | none => .bad
variable {lo hi : Option Expr} {rl rh : AO'}
theorem RelL.cut {K : PySem.W.Frag} {ι : List Addr} {H : Hp} {xs : List AV} {vs : List V} (r : RelL K κ ι H xs vs) (l h : Option Int) : RelL K κ ι H (cutA xs l h) (cutV vs l h) := by
  unfold cutA cutV
  rw [r.length]
  exact (r.drop _).take _
theorem cut_whole {xs : List AV} {l h : Option Int} (e : HT.sIx xs.length 0 l = 0 ∧ HT.sIx xs.length xs.length h = xs.length) : cutA xs l h = xs := by
  unfold cutA
  rw [e.1, e.2, List.drop_zero, Nat.sub_zero, List.take_length]
theorem DE.sl (ha : DE κ X a ra) (hl : DO κ X lo rl) (hh : DO κ X hi rh) : DE κ X (.Subscript a (.Slice lo hi none p2) pos) (eSl ra rl rh) := fun W tk => by
  obtain ⟨t1, p1, i1⟩ := ha W tk
  obtain ⟨t2, p2, i2⟩ := hl W tk
  obtain ⟨t3, p3, i3⟩ := hh W tk
  refine ⟨_, pe_slice (sl_tupA.or sl_str) p1 p2 p3, fun σ H Q ι ρ μ sr rl h => ?_⟩
  refine i1 σ H _ ι ρ μ sr rl (PG.bind h fun x μ1 ι1 H1 p1 m1 sr1 h1 v rv => ?_)
  refine i2 σ H1 _ ι1 ρ μ1 sr1 (rl.mono p1 m1) (PG.bind h1 fun l μ2 ι2 H2 p2 m2 sr2 h2 => ?_)
  refine i3 σ H2 _ ι2 ρ μ2 sr2 (rl.mono (p1.trans p2) (m1.trans m2)) (PG.bind h2 fun hh μ3 ι3 H3 p3 m3 sr3 h3 => ?_)
  have rv := rv.mono (p2.trans p3) (m2.trans m3)
  cases x <;> first | exact False.elim h3 | skip
  · cases rv
    rename_i z
    by_cases hz : z.length ≤ 16777216
    · simp only [if_pos hz] at h3
      exact .inr ⟨z, rfl, by rw [line16]; exact hz, ok1 sr3 h3 (.str _)⟩
    · simp only [if_neg hz] at h3
      exact False.elim h3
  · cases rv with
    | tup h r =>
      refine .inl ⟨_, _, rfl, h, fun ew => ?_, fun _ p hn => ?_⟩
      · rw [← r.length] at ew
        simp only [cut_whole ew] at h3
        exact ok1 sr3 h3 (.tup h r)
      · exact okT sr3 h3 (r.cut l hh) hn
theorem DN.sl (cl : Cl X k) (ha : DE κ X a ra) (hl : DO κ X lo rl) (hh : DO κ X hi rh) : DN κ X (.Subscript a (.Slice lo hi none p2) pos) (aSl ra rl rh) := DN.mk cl fun W tk => by
  obtain ⟨t1, p1, i1⟩ := ha W tk
  obtain ⟨t2, p2, i2⟩ := hl W tk
  obtain ⟨t3, p3, i3⟩ := hh W tk
  refine ⟨_, pe_slice sl_list p1 p2 p3, fun σ H Q ι ρ μ sr rl h => ?_⟩
  refine i1 σ H _ ι ρ μ sr rl (PG.bind0 h fun x μ1 ι1 H1 p1 m1 sr1 h1 v rv => ?_)
  refine i2 σ H1 _ ι1 ρ μ1 sr1 (rl.mono p1 m1) (PG.bindF m1 h1 fun l μ2 ι2 H2 p2 m2 sr2 h2 => ?_)
  refine i3 σ H2 _ ι2 ρ μ2 sr2 (rl.mono (p1.trans p2) (m1.trans m2)) (PG.bindF (m1.trans m2) h2 fun hh μ3 ι3 H3 p3 m3 sr3 h3 => ?_)
  have rv := rv.mono (p2.trans p3) (m2.trans m3)
  split at h3
  · rename_i xs e1
    obtain ⟨p, vs, rfl, hq, rl⟩ := ls_rel sr3 rv e1
    refine ⟨p, vs, rfl, hq, fun a hn => ?_⟩
    exact okNew sr sr3 ((m1.trans m2).trans m3) h3 (rl.cut l hh) hn
  · exact False.elim h3


def rC (K : PySem.W.Frag) (κ : Kap) (W : WX) (g : Fn) : List V → Hp → VK → Prop := fun xs H Q => ∃ (σ : St) (ι : List Addr) (μ : Store) (as : List AV), SR K κ ι μ H ∧ RelL K κ ι H as xs ∧ PG K κ W σ ι H (CV K κ Q) (g as μ)
def CallA (κ : Kap) (X : Cx) (f : Value) (g : Fn) : Prop := ∀ W, Takes X W → CallR X f (rC X.K κ W g)
abbrev FnN := List AV → Store → Res (List AV)
abbrev CN' (K : PySem.W.Frag) (κ : Kap) (H : Hp) (Q : VK) : List AV → List Addr → Hp → Prop := fun vs ι' H' => ∀ (a : Addr) (xs : List V), RelL K κ ι' H' vs xs → H' a = some (.lst xs) → a ∉ ι' → H a = none → Q (.ref a) H'
def rCN (K : PySem.W.Frag) (κ : Kap) (W : WX) (g : FnN) : List V → Hp → VK → Prop := fun xs H Q => ∃ (σ : St) (ι₀ : List Addr) (H₀ : Hp) (μ₀ : Store) (ι : List Addr) (μ : Store) (as : List AV), SR K κ ι₀ μ₀ H₀ ∧ HM ι₀ H₀ ι H ∧ SR K κ ι μ H ∧ RelL K κ ι H as xs ∧ PG K κ W σ ι₀ H₀ (CN' K κ H₀ Q) (g as μ)
def CallN (κ : Kap) (X : Cx) (f : Value) (g : FnN) : Prop := ∀ W, Takes X W → CallR X f (rCN X.K κ W g)
def eCB (g : Fn) (r : AA) : AE := fun ρ μ => (r ρ μ).bind fun xs μ1 => g xs μ1
def aCB (g : FnN) (r : AA) : AA := fun ρ μ => (r ρ μ).bind fun xs μ1 => g xs μ1
variable {x : Str} {p : Pos} {id T : String} {f : Fn} {fn : FnN}
theorem DE.callB (hc : CallA κ X (.builtin id) f) (hg : Gl X x) (hm : X.mg x = none) (hv : bootBuiltins x = some (.builtin id)) (ha : DA κ X (e :: es) rs) (hn : x ≠ "__name__" := by decide) (hdb : (x == ("__debug__" : Str)) = false := by decide)
    (he : starEach (e :: es) X.env = (false, eval e X.env) :: starEach es X.env := by rfl) (hpl : (backTo pos (starEach es X.env)).any (·.1) = false := by rfl) : DE κ X (.Call (.Name x p) (e :: es) [] pos) (eCB f rs) := fun W tk => by
  obtain ⟨t, q, i⟩ := ha W tk
  refine ⟨_, pe_callB (hc W tk) hg hm hv q hn hdb he hpl, fun σ H Q ι ρ μ sr rl h => ?_⟩
  exact i σ H _ ι ρ μ sr rl (PG.bind h fun xs μ1 ι1 H1 p1 m1 sr1 h1 vs rv => ⟨σ, ι1, μ1, xs, sr1, rv, h1⟩)
theorem DE.callTy (hc : CallA κ X (.type T) f) (hg : Gl X x) (hm : X.mg x = none) (hv : bootBuiltins x = some (.type T)) (ha : DA κ X (e :: es) rs) (hn : x ≠ "__name__" := by decide) (hdb : (x == ("__debug__" : Str)) = false := by decide)
    (he : starEach (e :: es) X.env = (false, eval e X.env) :: starEach es X.env := by rfl) (hpl : (backTo pos (starEach es X.env)).any (·.1) = false := by rfl) : DE κ X (.Call (.Name x p) (e :: es) [] pos) (eCB f rs) := fun W tk => by
  obtain ⟨t, q, i⟩ := ha W tk
  refine ⟨_, pe_callTy (hc W tk) hg hm hv q hn hdb he hpl, fun σ H Q ι ρ μ sr rl h => ?_⟩
  exact i σ H _ ι ρ μ sr rl (PG.bind h fun xs μ1 ι1 H1 p1 m1 sr1 h1 vs rv => ⟨σ, ι1, μ1, xs, sr1, rv, h1⟩)
theorem DN.callB (cl : Cl X k) (hc : CallN κ X (.builtin id) fn) (hg : Gl X x) (hm : X.mg x = none) (hv : bootBuiltins x = some (.builtin id)) (ha : DA κ X (e :: es) rs) (hn : x ≠ "__name__" := by decide) (hdb : (x == ("__debug__" : Str)) = false := by decide)
    (he : starEach (e :: es) X.env = (false, eval e X.env) :: starEach es X.env := by rfl) (hpl : (backTo pos (starEach es X.env)).any (·.1) = false := by rfl) : DN κ X (.Call (.Name x p) (e :: es) [] pos) (aCB fn rs) := DN.mk cl fun W tk => by
  obtain ⟨t, q, i⟩ := ha W tk
  refine ⟨_, pe_callB (hc W tk) hg hm hv q hn hdb he hpl, fun σ H Q ι ρ μ sr rl h => ?_⟩
  exact i σ H _ ι ρ μ sr rl (PG.bind0 h fun xs μ1 ι1 H1 p1 m1 sr1 h1 vs rv => ⟨σ, ι, H, μ, ι1, μ1, xs, sr, m1, sr1, rv, h1⟩)
theorem DN.callTy (cl : Cl X k) (hc : CallN κ X (.type T) fn) (hg : Gl X x) (hm : X.mg x = none) (hv : bootBuiltins x = some (.type T)) (ha : DA κ X (e :: es) rs) (hn : x ≠ "__name__" := by decide) (hdb : (x == ("__debug__" : Str)) = false := by decide)
    (he : starEach (e :: es) X.env = (false, eval e X.env) :: starEach es X.env := by rfl) (hpl : (backTo pos (starEach es X.env)).any (·.1) = false := by rfl) : DN κ X (.Call (.Name x p) (e :: es) [] pos) (aCB fn rs) := DN.mk cl fun W tk => by
  obtain ⟨t, q, i⟩ := ha W tk
  refine ⟨_, pe_callTy (hc W tk) hg hm hv q hn hdb he hpl, fun σ H Q ι ρ μ sr rl h => ?_⟩
  exact i σ H _ ι ρ μ sr rl (PG.bind0 h fun xs μ1 ι1 H1 p1 m1 sr1 h1 vs rv => ⟨σ, ι, H, μ, ι1, μ1, xs, sr, m1, sr1, rv, h1⟩)
def gLen : Fn := fun as μ => match as with
  | [.str z] => if z.length ≤ 16777216 then .ok (.int z.length) μ else .bad
  | [.scr ns] => .ok (.int ns.length) μ
  | [x] => match seqOf μ x with
    | some xs => .ok (.int xs.length) μ
    | none => .bad
  | _ => .bad
theorem ca_len : CallA κ X (.builtin "len") gLen := fun W tk pins s σ H xs us Q I r hh => by
  obtain ⟨σ0, ι, μ, as, sr, rl, h⟩ := hh
  unfold gLen at h
  split at h
  · rename_i z
    cases rl with
    | cons r1 r2 =>
      cases r2; cases r1
      by_cases hz : z.length ≤ 16777216
      · rw [if_pos hz] at h
        exact call_len pins s σ H _ us Q I r ⟨_, _, rfl, ⟨by rw [line16]; exact hz, rfl⟩, ok1 sr h (.int _)⟩
      · rw [if_neg hz] at h
        exact False.elim h
  · rename_i ns
    cases rl with
    | cons r1 r2 =>
      cases r2
      cases r1 with
      | scr hq => exact call_len pins s σ H _ us Q I r ⟨_, ns.length, rfl, .inl ⟨_, hq.sq, by simp⟩, ok1 sr h (.int _)⟩
  · rename_i x n1 n2
    split at h
    · rename_i ys e1
      cases rl with
      | cons r1 r2 =>
        cases r2
        obtain ⟨p, vs, rfl, hq, rl⟩ := seqOf_rel sr r1 e1
        refine call_len pins s σ H _ us Q I r ⟨_, ys.length, rfl, ?_, ok1 sr h (.int _)⟩
        rcases hq with hq | hq
        · exact .inl ⟨vs, hq, rl.length⟩
        · exact .inr ⟨vs, hq, rl.length⟩
    · exact False.elim h
  · exact False.elim h
def gAbs : Fn := fun as μ => match as with
  | [.int i] => .ok (.int (if i < 0 then -i else i)) μ
  | _ => .bad
theorem ca_abs : CallA κ X (.builtin "abs") gAbs := fun W tk pins s σ H xs us Q I r hh => by
  obtain ⟨σ0, ι, μ, as, sr, rl, h⟩ := hh
  unfold gAbs at h
  split at h
  · cases rl with
    | cons r1 r2 =>
      cases r2; cases r1
      exact call_abs pins s σ H _ us Q I r ⟨_, rfl, ok1 sr h (.int _)⟩
  · exact False.elim h
def gMax : Fn := fun as μ => match as with
  | [.int i, .int j] => .ok (.int (if j > i then j else i)) μ
  | _ => .bad
def gMin : Fn := fun as μ => match as with
  | [.int i, .int j] => .ok (.int (if j < i then j else i)) μ
  | _ => .bad
theorem ca_max (cl : Cl X k) : CallA κ X (.builtin "max") gMax := fun W tk pins s σ H xs us Q I r hh => by
  obtain ⟨σ0, ι, μ, as, sr, rl, h⟩ := hh
  unfold gMax at h
  split at h
  · cases rl with
    | cons r1 r2 =>
      cases r2 with
      | cons r2 r3 =>
        cases r3; cases r1; cases r2
        exact call_max2 cl.calm pins s σ H _ us Q I r ⟨_, _, rfl, ok1 sr h (.int _)⟩
  · exact False.elim h
theorem ca_min (cl : Cl X k) : CallA κ X (.builtin "min") gMin := fun W tk pins s σ H xs us Q I r hh => by
  obtain ⟨σ0, ι, μ, as, sr, rl, h⟩ := hh
  unfold gMin at h
  split at h
  · cases rl with
    | cons r1 r2 =>
      cases r2 with
      | cons r2 r3 =>
        cases r3; cases r1; cases r2
        exact call_min2 cl.calm pins s σ H _ us Q I r ⟨_, _, rfl, ok1 sr h (.int _)⟩
  · exact False.elim h
def gInt : Fn := fun as μ => match as with
  | [.int i] => .ok (.int i) μ
  | [.bl b] => .ok (.int (if b then 1 else 0)) μ
  | _ => .bad
theorem ca_int : CallA κ X (.type "int") gInt := fun W tk pins s σ H xs us Q I r hh => by
  obtain ⟨σ0, ι, μ, as, sr, rl, h⟩ := hh
  unfold gInt at h
  split at h
  · cases rl with
    | cons r1 r2 =>
      cases r2; cases r1
      exact call_int1 pins s σ H _ us Q I r (.inl ⟨_, rfl, ok1 sr h (.int _)⟩)
  · cases rl with
    | cons r1 r2 =>
      cases r2; cases r1
      exact call_int1 pins s σ H _ us Q I r (.inr ⟨_, rfl, ok1 sr h (.int _)⟩)
  · exact False.elim h
def gStr : Fn := fun as μ => match as with
  | [.int i] => if i.natAbs.log2 < 1920 then .ok (.str (toString i)) μ else .bad
  | [.str z] => .ok (.str z) μ
  | [.bl b] => .ok (.str (if b then "True" else "False")) μ
  | _ => .bad
theorem ca_str : CallA κ X (.type "str") gStr := fun W tk pins s σ H xs us Q I r hh => by
  obtain ⟨σ0, ι, μ, as, sr, rl, h⟩ := hh
  unfold gStr at h
  split at h
  · rename_i i
    cases rl with
    | cons r1 r2 =>
      cases r2; cases r1
      by_cases hz : i.natAbs.log2 < 1920
      · rw [if_pos hz] at h
        exact call_str_int pins s σ H _ us Q I r ⟨_, rfl, hz, ok1 sr h (.str _)⟩
      · rw [if_neg hz] at h
        exact False.elim h
  · cases rl with
    | cons r1 r2 =>
      cases r2; cases r1
      exact SkE.call_str_str pins s σ H _ us Q I r ⟨_, rfl, ok1 sr h (.str _)⟩
  · cases rl with
    | cons r1 r2 =>
      cases r2; cases r1
      obtain ⟨u, rfl, ru⟩ := r.one
      cases ru
      exact PySem.P.str_of_bool ⟨.str _, H, I.tok _, ⟨_, rfl⟩, ok1 sr h (.str _)⟩
  · exact False.elim h

def blsOf : List AV → Option (List Bool)
  | [] => some []
  | .bl b :: r => (blsOf r).map (b :: ·)
  | _ => none
theorem bls_map : ∀ {xs : List AV} {bs : List Bool}, blsOf xs = some bs → xs = bs.map AV.bl
  | [], bs, e => by cases e; rfl
  | x :: xs, bs, e => by
    cases x <;> first | (cases e; done) | skip
    simp only [blsOf, Option.map_eq_some_iff] at e
    obtain ⟨r, e1, e2⟩ := e
    subst e2
    rw [bls_map e1]
    rfl
theorem RelL.bls {K : PySem.W.Frag} {ι : List Addr} {H : Hp} : ∀ {bs : List Bool} {vs : List V}, RelL K κ ι H (bs.map AV.bl) vs → vs = bs.map V.bl
  | [], _, .nil => rfl
  | b :: bs, _, .cons h r => by
    cases h
    rw [RelL.bls r]
    rfl
theorem RelL.intsOf {K : PySem.W.Frag} {ι : List Addr} {H : Hp} : ∀ {bs : List Int} {vs : List V}, RelL K κ ι H (bs.map AV.int) vs → vs = bs.map V.int
  | [], _, .nil => rfl
  | b :: bs, _, .cons h r => by
    cases h
    rw [RelL.intsOf r]
    rfl
def gAll : Fn := fun as μ => match as with
  | [x] => match lsOf μ x with
    | some xs => match blsOf xs with
      | some bs => .ok (.bl (bs.all _root_.id)) μ
      | none => .bad
    | none => .bad
  | _ => .bad
def gAny : Fn := fun as μ => match as with
  | [x] => match lsOf μ x with
    | some xs => match blsOf xs with
      | some bs => .ok (.bl (bs.any _root_.id)) μ
      | none => .bad
    | none => .bad
  | _ => .bad
theorem ca_all (cl : Cl X k) : CallA κ X (.builtin "all") gAll := fun W tk pins s σ H xs us Q I r hh => by
  obtain ⟨σ0, ι, μ, as, sr, rl, h⟩ := hh
  unfold gAll at h
  split at h <;> first | exact False.elim h | skip
  split at h <;> first | exact False.elim h | skip
  split at h <;> first | exact False.elim h | skip
  rename_i x _ xs e1 _ bs e2
  cases rl with
  | cons r1 r2 =>
    cases r2
    obtain ⟨p, vs, rfl, hq, rl⟩ := ls_rel sr r1 e1
    rw [bls_map e2] at rl
    rw [rl.bls] at hq
    exact cr_all cl.calm pins s σ H _ us Q I r ⟨p, bs, rfl, hq, ok1 sr h (.bl _)⟩
theorem ca_any (cl : Cl X k) : CallA κ X (.builtin "any") gAny := fun W tk pins s σ H xs us Q I r hh => by
  obtain ⟨σ0, ι, μ, as, sr, rl, h⟩ := hh
  unfold gAny at h
  split at h <;> first | exact False.elim h | skip
  split at h <;> first | exact False.elim h | skip
  split at h <;> first | exact False.elim h | skip
  rename_i x _ xs e1 _ bs e2
  cases rl with
  | cons r1 r2 =>
    cases r2
    obtain ⟨p, vs, rfl, hq, rl⟩ := ls_rel sr r1 e1
    rw [bls_map e2] at rl
    rw [rl.bls] at hq
    exact cr_any cl.calm pins s σ H _ us Q I r ⟨p, bs, rfl, hq, ok1 sr h (.bl _)⟩

def gTuple : Fn := fun as μ => match as with
  | [x] => match seqOf μ x with
    | some xs => .ok (.tup xs) μ
    | none => .bad
  | _ => .bad
theorem ca_tuple : CallA κ X (.type "tuple") gTuple := fun W tk pins s σ H xs us Q I r hh => by
  obtain ⟨σ0, ι, μ, as, sr, rl, h⟩ := hh
  unfold gTuple at h
  split at h <;> first | exact False.elim h | skip
  split at h <;> first | exact False.elim h | skip
  rename_i x _ xs e1
  cases rl with
  | cons r1 r2 =>
    cases r2
    obtain ⟨p, vs, rfl, hq, rl⟩ := seqOf_rel sr r1 e1
    refine call_tuple_of pins s σ H _ us Q I r ⟨p, vs, rfl, ?_⟩
    rcases hq with hq | hq
    · exact .inl ⟨hq, fun l hn => okT sr h rl hn⟩
    · exact .inr ⟨hq, ok1 sr h (.tup hq rl)⟩
def gList : FnN := fun as μ => match as with
  | [x] => match seqOf μ x with
    | some xs => .ok xs μ
    | none => .bad
  | _ => .bad
theorem cn_list : CallN κ X (.type "list") gList := fun W tk pins s σ H xs us Q I r hh => by
  obtain ⟨σ0, ι₀, H₀, μ₀, ι, μ, as, sr₀, m, sr, rl, h⟩ := hh
  unfold gList at h
  split at h <;> first | exact False.elim h | skip
  split at h <;> first | exact False.elim h | skip
  rename_i x _ xs e1
  cases rl with
  | cons r1 r2 =>
    cases r2
    obtain ⟨p, vs, rfl, hq, rl⟩ := seqOf_rel sr r1 e1
    exact call_list_of pins s σ H _ us Q I r ⟨p, vs, rfl, hq, fun l hn => okNew sr₀ sr m h rl hn⟩
end
end Lr


namespace Lr
open PySem PySem.Spec L2
open PyProof.Rows hiding St


def kindA (μ : Store) : AV → Option String
  | .non => some "NoneType"
  | .bl _ => some "bool"
  | .int _ => some "int"
  | .str _ => some "str"
  | .tup _ => some "tuple"
  | .lst _ => some "list"
  | .dct _ => some "dict"
  | .loc n => match μ[n]? with
    | some (.lst _) => some "list"
    | _ => none
  | _ => none
def isiB (k n : String) : Option Bool := if ["int", "bool", "str", "tuple", "list", "dict"].contains n then some (k == n || (k == "bool" && n == "int")) else none
theorem isiB_ok : ∀ k ∈ ["NoneType", "bool", "int", "str", "tuple", "list", "dict"], ∀ n ∈ ["int", "bool", "str", "tuple", "list", "dict"], kitB k n = some (k == n || (k == "bool" && n == "int")) := by decide +kernel
def gIsi : Fn := fun as μ => match as with
  | [x, .ty n] => match kindA μ x with
    | some k => match isiB k n with
      | some b => .ok (.bl b) μ
      | none => .bad
    | none => .bad
  | _ => .bad
section
variable {κ : Kap} {X : Cx} {a b c e : Expr} {ra rb rc r : AE} {pos p2 : Pos} {g g' : G2} {k : Nat} {es : List Expr} {rs : AA}
theorem DE.tyname {x : Str} {n : String} {pos : Pos} (hg : Gl X x) (hm : X.mg x = none) (hv : bootBuiltins x = some (.type n)) (hn : x ≠ "__name__" := by decide) (hd : (x == ("__debug__" : Str)) = false := by decide) : DE κ X (.Name x pos) (eC (.ty n)) :=
  .con (pe_bltn (v := .ty n) hg hm hv rfl hn hd) fun _ _ => .ty n
theorem kind_mem {μ : Store} {x : AV} {k : String} (e : kindA μ x = some k) : k ∈ ["NoneType", "bool", "int", "str", "tuple", "list", "dict"] := by
  cases x <;> simp only [kindA] at e <;> first | (cases e; done) | (cases e; decide) | skip
  · split at e
    · cases e; decide
    · cases e
theorem kit_kind {pins : List (Addr × Obj)} {σ : St} {H : Hp} {s : Shared} {ι : List Addr} {μ : Store} (I : Inv X pins σ H s) (sr : SR X.K κ ι μ H) {x : AV} {v : V} {u : Value} {T : String} (r : Rel X.K κ ι H x v) (ru : RelV v u) (e : kindA μ x = some T) :
    ∃ P : Heap → Prop, PySem.W.KitX X.K u (.type T) P ∧ P s.heap ∧ u ≠ .builtin "__main__.__loader__#opaque" := by
  cases r with
  | non => cases ru; cases e; exact ⟨_, PySem.W.kitx_none, True.intro, fun z => nomatch z⟩
  | bl k => cases ru; cases e; exact ⟨_, PySem.W.kitx_bool, True.intro, fun z => nomatch z⟩
  | int i => obtain ⟨t, rfl⟩ := ru; cases e; exact ⟨_, PySem.W.kitx_int, True.intro, fun z => nomatch z⟩
  | str y => obtain ⟨t, rfl⟩ := ru; cases e; exact ⟨_, PySem.W.kitx_str, True.intro, fun z => nomatch z⟩
  | tup h r =>
    cases ru; cases e
    obtain ⟨_, _, ⟨o, h1, h2, _⟩, _⟩ := I.tuple h
    exact ⟨_, PySem.W.kitx_tuple, ⟨o, h1, h2⟩, fun z => nomatch z⟩
  | lst h r =>
    cases ru; cases e
    obtain ⟨_, _, ⟨o, n, h1, h2, _⟩, _⟩ := I.list h.sq
    exact ⟨_, PySem.W.kitx_list, ⟨o, h1, h2⟩, fun z => nomatch z⟩
  | dct h ho hd hn r =>
    cases ru; cases e
    obtain ⟨h1, _⟩ := I.hok _ _ h
    exact ⟨_, PySem.W.kitx_dict, ⟨_, h1, ho.1⟩, fun z => nomatch z⟩
  | loc h =>
    rename_i n p
    cases ru
    simp only [kindA] at e
    split at e
    · cases e
      rename_i xs q
      obtain ⟨vs, e1, r1⟩ := sr.obj n _ p q h
      obtain ⟨_, _, ⟨o, n, h1, h2, _⟩, _⟩ := I.list (.inl (.inl e1))
      exact ⟨_, PySem.W.kitx_list, ⟨o, h1, h2⟩, fun z => nomatch z⟩
    · cases e
  | _ => cases e
theorem ca_isi : CallA κ X (.builtin "isinstance") gIsi := fun W tk pins s σ H xs us Q I r hh => by
  obtain ⟨σ0, ι, μ, as, sr, rl, h⟩ := hh
  unfold gIsi at h
  split at h <;> first | exact False.elim h | skip
  split at h <;> first | exact False.elim h | skip
  split at h <;> first | exact False.elim h | skip
  rename_i x n _ T eT _ b eb
  cases rl with
  | cons r1 r2 =>
    cases r2 with
    | cons r2 r3 =>
      cases r3
      cases r2
      obtain ⟨u1, u2, rfl, q1, q2⟩ := vals2 r
      cases (show u2 = Value.type n from q2)
      obtain ⟨P, Z, hp, hx⟩ := kit_kind I sr r1 q1 eT
      have hk : PySem.W.kitOne X.K (.type T) (.type n) = some b := by
        refine kit_ty ?_
        unfold isiB at eb
        split at eb
        · rename_i hc
          rw [isiB_ok T (kind_mem eT) n (by simpa using hc)]
          exact eb
        · cases eb
      exact PySem.W.kia_one Z I.kIn hp hk hx fun tk => ⟨.bl b, H, I.tok tk, rfl, ok1 sr h (.bl _)⟩


mutual
def toD : AV → Option PyData
  | .non => some .none
  | .bl b => some (.bool b)
  | .int i => some (.int i)
  | .str x => some (.str x)
  | .tup xs => (toDL xs).map .tuple
  | .lst xs => (toDL xs).map .list
  | .dct kvs => (toDD kvs).map .dict
  | .loc _ => none | .obj _ => none | .scr _ => none | .ty _ => none
def toDL : List AV → Option (List PyData)
  | [] => some []
  | x :: xs => match toD x, toDL xs with
    | some d, some ds => some (d :: ds)
    | _, _ => none
def toDD : List (AV × AV) → Option (List (PyData × PyData))
  | [] => some []
  | (x, y) :: xs => match toD x, toD y, toDD xs with
    | some d, some e, some ds => some ((d, e) :: ds)
    | _, _, _ => none
end
mutual
theorem reads_of {pins : List (Addr × Obj)} {σ : St} {H : Hp} {s : Shared} {ι : List Addr} (I : Inv X pins σ H s) : ∀ (x : AV) (v : V) (u : Value) (d : PyData), Rel X.K κ ι H x v → RelV v u → toD x = some d → ∃ as, Reads s.heap u d as ∧ sysModules ∉ as
  | .non, v, u, d, r, ru, e => by cases r; cases ru; cases e; exact ⟨_, .none, by simp⟩
  | .bl b, v, u, d, r, ru, e => by cases r; cases ru; cases e; exact ⟨_, .bool b, by simp⟩
  | .int i, v, u, d, r, ru, e => by cases r; obtain ⟨t, rfl⟩ := ru; cases e; exact ⟨_, .int i t, by simp⟩
  | .str y, v, u, d, r, ru, e => by cases r; obtain ⟨t, rfl⟩ := ru; cases e; exact ⟨_, .str y t, by simp⟩
  | .tup xs, v, u, d, r, ru, e => by
    cases r with
    | tup h r =>
      cases ru
      simp only [toD, Option.map_eq_some_iff] at e
      obtain ⟨ds, e1, rfl⟩ := e
      obtain ⟨its, rv, ⟨o, h1, h2, n, h3⟩, _⟩ := I.tuple h
      obtain ⟨as, q, nm⟩ := reads_ofL I xs _ its ds r rv e1
      exact ⟨as, .tuple h1 h2 h3 q, nm⟩
  | .lst xs, v, u, d, r, ru, e => by
    cases r with
    | lst h r =>
      cases ru
      simp only [toD, Option.map_eq_some_iff] at e
      obtain ⟨ds, e1, rfl⟩ := e
      obtain ⟨its, rv, ⟨o, n, h1, h2, _, h3⟩, _⟩ := I.list h.sq
      obtain ⟨as, q, nm⟩ := reads_ofL I xs _ its ds r rv e1
      obtain ⟨_, _, hn⟩ := h
      exact ⟨_, .list h1 h2 h3 q, by simp only [List.mem_cons, not_or]; exact ⟨fun z => hn z.symm, nm⟩⟩
  | .dct xs, v, u, d, r, ru, e => by
    cases r with
    | dct h ho hd hn r =>
      cases ru
      simp only [toD, Option.map_eq_some_iff] at e
      obtain ⟨ds, e1, rfl⟩ := e
      obtain ⟨h1, _⟩ := I.hok _ _ h
      obtain ⟨as, bs, q1, q2, n1, n2⟩ := reads_ofD I xs _ ds r e1
      refine ⟨_, .dict h1 ho.1 hd q1 q2, ?_⟩
      simp only [List.cons_append, List.mem_cons, List.mem_append, not_or]
      exact ⟨fun z => hn z.symm, n1, n2⟩
  | .loc _, _, _, _, _, _, e => by cases e
  | .obj _, _, _, _, _, _, e => by cases e
  | .scr _, _, _, _, _, _, e => by cases e
  | .ty _, _, _, _, _, _, e => by cases e
theorem reads_ofL {pins : List (Addr × Obj)} {σ : St} {H : Hp} {s : Shared} {ι : List Addr} (I : Inv X pins σ H s) : ∀ (xs : List AV) (vs : List V) (us : List Value) (ds : List PyData), RelL X.K κ ι H xs vs → Vals vs us → toDL xs = some ds → ∃ as, ReadsAll s.heap us ds as ∧ sysModules ∉ as
  | [], vs, us, ds, r, rv, e => by cases r; cases rv; cases e; exact ⟨_, .nil, by simp⟩
  | x :: xs, vs, us, ds, r, rv, e => by
    cases r with
    | cons r1 r2 =>
      cases rv with
      | cons v1 v2 =>
        unfold toDL at e
        cases q1 : toD x with
        | none => rw [q1] at e; cases e
        | some d =>
          cases q2 : toDL xs with
          | none => rw [q1, q2] at e; cases e
          | some ds' =>
            rw [q1, q2] at e
            cases e
            obtain ⟨as, h1, n1⟩ := reads_of I x _ _ d r1 v1 q1
            obtain ⟨bs, h2, n2⟩ := reads_ofL I xs _ _ ds' r2 v2 q2
            exact ⟨_, .cons h1 h2, by simp only [List.mem_append, not_or]; exact ⟨n1, n2⟩⟩
theorem reads_ofD {pins : List (Addr × Obj)} {σ : St} {H : Hp} {s : Shared} {ι : List Addr} (I : Inv X pins σ H s) : ∀ (xs : List (AV × AV)) (es : List DictEntry) (ds : List (PyData × PyData)), RelD X.K κ ι H xs es → toDD xs = some ds →
    ∃ as bs, ReadsAll s.heap (es.map (·.key)) (ds.map (·.1)) as ∧ ReadsAll s.heap (es.map (·.val)) (ds.map (·.2)) bs ∧ sysModules ∉ as ∧ sysModules ∉ bs
  | [], es, ds, r, e => by cases r; cases e; exact ⟨_, _, .nil, .nil, by simp, by simp⟩
  | (x, y) :: xs, es, ds, r, e => by
    cases r with
    | cons r1 v1 r2 v2 r3 =>
      unfold toDD at e
      cases q1 : toD x with
      | none => rw [q1] at e; cases e
      | some d =>
        cases q2 : toD y with
        | none => rw [q1, q2] at e; cases e
        | some d2 =>
          cases q3 : toDD xs with
          | none => rw [q1, q2, q3] at e; cases e
          | some ds' =>
            rw [q1, q2, q3] at e
            cases e
            obtain ⟨as, h1, n1⟩ := reads_of I x _ _ d r1 v1 q1
            obtain ⟨bs, h2, n2⟩ := reads_of I y _ _ d2 r2 v2 q2
            obtain ⟨cs, cs2, h3, h4, n3, n4⟩ := reads_ofD I xs _ ds' r3 q3
            exact ⟨_, _, .cons h1 h3, .cons h2 h4, by simp only [List.mem_append, not_or]; exact ⟨n1, n3⟩, by simp only [List.mem_append, not_or]; exact ⟨n2, n4⟩⟩
end

def toDM (μ : Store) (x : AV) : Option PyData := match toD x with
  | some d => some d
  | none => match lsOf μ x with
    | some xs => (toDL xs).map .list
    | none => none
def repOk (d : PyData) : Bool := d.showable && decide (d.shown.length ≤ 16777216) && decide (d.depth ≤ 150)
def gRepr : Fn := fun as μ => match as with
  | [x] => match toD x with
    | some d => if repOk d then .ok (.str d.shown) μ else .bad
    | none => .bad
  | _ => .bad
theorem ca_repr (cl : Cl X k) : CallA κ X (.builtin "repr") gRepr := fun W tk pins s σ H xs us Q I r hh => by
  obtain ⟨σ0, ι, μ, as, sr, rl, h⟩ := hh
  unfold gRepr at h
  split at h <;> first | exact False.elim h | skip
  split at h <;> first | exact False.elim h | skip
  rename_i x _ d ed
  by_cases hz : repOk d = true
  · rw [if_pos hz] at h
    unfold repOk at hz
    simp only [Bool.and_eq_true, decide_eq_true_eq] at hz
    obtain ⟨⟨hs, hl⟩, hd⟩ := hz
    cases rl with
    | cons r1 r2 =>
      cases r2
      rename_i v
      obtain ⟨u, rfl, ru⟩ := r.one
      obtain ⟨as, rd, nm⟩ := reads_of I x v u d r1 ru ed
      have hu := cl.room.un
      have hl2 : d.shown.length ≤ sizeLine := by rw [line16]; exact hl
      have q := ok1 sr h (.str d.shown)
      cases rd with
      | none => exact PySem.P.repr_of_none ⟨.str _, H, I.tok _, ⟨_, rfl⟩, q⟩
      | bool b => exact PySem.P.repr_of_bool ⟨.str _, H, I.tok _, ⟨_, rfl⟩, q⟩
      | int i t => exact PySem.P.repr_of_int (by simpa [PyData.showable] using hs) ⟨.str _, H, I.tok _, ⟨_, rfl⟩, q⟩
      | str y t => exact PySem.P.repr_of_str ⟨.str _, H, I.tok _, ⟨_, rfl⟩, q⟩ hl2
      | list h1 h2 h3 h4 => exact PySem.repr_of_reads' (.list h1 h2 h3 h4) hs (fun _ => nm) cl.gd (by omega) (fun _ _ e => e) (fun h' t tk hk => ⟨.str _, H, I.kept hk, ⟨_, rfl⟩, q⟩) hl2
      | tuple h1 h2 h3 h4 => exact PySem.repr_of_reads' (.tuple h1 h2 h3 h4) hs (fun _ => nm) cl.gd (by omega) (fun _ _ e => e) (fun h' t tk hk => ⟨.str _, H, I.kept hk, ⟨_, rfl⟩, q⟩) hl2
      | dict h1 h2 h3 h4 h5 => exact PySem.repr_of_reads' (.dict h1 h2 h3 h4 h5) hs (fun _ => nm) cl.gd (by omega) (fun _ _ e => e) (fun h' t tk hk => ⟨.str _, H, I.kept hk, ⟨_, rfl⟩, q⟩) hl2
  · rw [if_neg hz] at h
    exact False.elim h
end
end Lr


namespace Lr
open PySem PySem.Spec L2
open PyProof.Rows hiding St


def sNil : AS := fun ρ μ => .nx ρ μ
def sSeq (a b : AS) : AS := fun ρ μ => match a ρ μ with
  | .nx ρ1 μ1 => b ρ1 μ1
  | o => o
def sExpr (r : AE) : AS := fun ρ μ => (r ρ μ).out ρ fun _ μ1 => .nx ρ μ1
def sRet (r : AE) : AS := fun ρ μ => (r ρ μ).out ρ fun v μ1 => .rt v μ1
def sRetN : AS := fun _ μ => .rt .non μ
def sIf (t : AT) (a b : AS) : AS := fun ρ μ => (t ρ μ).out ρ fun k μ1 => if k then a ρ μ1 else b ρ μ1
def sBreak : AS := fun ρ μ => .bk ρ μ
def sCont : AS := fun ρ μ => .ct ρ μ
def sNever : AS := fun _ _ => .bad
def sSet (i : Nat) (r : AE) : AS := fun ρ μ => (r ρ μ).out ρ fun v μ1 => .nx (ρ.set i (some v)) μ1
section
variable {κ : Kap} {X : Cx} {a b c e : Expr} {ra rb rc r : AE} {pos p2 pos' : Pos} {g g' : G2} {k : Nat} {es : List Expr} {rs : AA} {st : Stmt} {sts : List Stmt} {s1 s2 : AS} {ta : AT}
theorem RelS.set {K : PySem.W.Frag} {ι : List Addr} {H : Hp} {ρ : Loc} {σ : St} {i : Nat} {v : AV} {x : V} (rl : RelS K κ ι H ρ σ) (r : Rel K κ ι H v x) : RelS K κ ι H (ρ.set i (some v)) (σ.set i (some x)) := by
  refine ⟨by simp [rl.1], fun j w e => ?_⟩
  by_cases hj : i = j
  · subst hj
    have hi : i < ρ.length := by
      have := (List.getElem?_eq_some_iff.mp e).1
      simpa using this
    rw [List.getElem?_set_self hi] at e
    cases e
    exact ⟨x, List.getElem?_set_self (by rw [← rl.1]; exact hi), r⟩
  · rw [List.getElem?_set_ne hj] at e ⊢
    exact rl.2 j w e
theorem DSs.nil : DSs κ X [] sNil := fun W _ => ⟨_, pss_nil, fun D σ H ι ρ μ sr rl h => h ι H σ (List.prefix_refl _) (HM.refl _) sr rl⟩
theorem DSs.one (h : DS κ X st s1) : DSs κ X [st] s1 := fun W tk => let ⟨t, p, i⟩ := h W tk; ⟨t, pss_one p, i⟩
theorem DSs.cons (h1 : DS κ X st s1) (h2 : DSs κ X sts s2) : DSs κ X (st :: sts) (sSeq s1 s2) := fun W tk => by
  obtain ⟨t, p, i⟩ := h1 W tk
  obtain ⟨u, q, j⟩ := h2 W tk
  refine ⟨_, pss_cons p q, fun D σ H ι ρ μ sr rl h => ?_⟩
  refine i _ σ H ι ρ μ sr rl ?_
  unfold sSeq at h
  cases e : s1 ρ μ with
  | nx ρ1 μ1 =>
    rw [e] at h
    exact fun ι1 H1 σ1 p1 m1 sr1 rl1 => j D σ1 H1 ι1 ρ1 μ1 sr1 rl1 (PO'.mono p1 m1 h)
  | rt v μ1 => rw [e] at h; exact h
  | bk ρ1 μ1 => rw [e] at h; exact h
  | ct ρ1 μ1 => rw [e] at h; exact h
  | ex c v ρ1 μ1 => rw [e] at h; exact h
  | bad => rw [e] at h; exact h
theorem DS.expr (ha : DE κ X a ra) (hs : swapsWith a none pos.line X.env = pure false := by rfl) : DS κ X (.Expr a pos) (sExpr ra) := fun W tk => by
  obtain ⟨t, p, i⟩ := ha W tk
  refine ⟨_, ps_expr p hs, fun D σ H ι ρ μ sr rl h => ?_⟩
  exact i σ H _ ι ρ μ sr rl (PO'.bind rl h fun v μ1 ι1 H1 p1 m1 sr1 h1 x rx => h1 ι1 H1 σ (List.prefix_refl _) (HM.refl _) sr1 (rl.mono p1 m1))
theorem DS.ret (ha : DE κ X a ra) : DS κ X (.Return (some a) pos) (sRet ra) := fun W tk => by
  obtain ⟨t, p, i⟩ := ha W tk
  refine ⟨_, ps_ret p, fun D σ H ι ρ μ sr rl h => ?_⟩
  exact i σ H _ ι ρ μ sr rl (PO'.bind rl h fun v μ1 ι1 H1 p1 m1 sr1 h1 x rx => h1 ι1 H1 x (List.prefix_refl _) (HM.refl _) sr1 rx)
theorem DS.retN : DS κ X (.Return none pos) sRetN := fun W tk => ⟨_, ps_retN, fun D σ H ι ρ μ sr rl h => h ι H .non (List.prefix_refl _) (HM.refl _) sr .non⟩
theorem DS.pass : DS κ X (.Pass pos) sNil := fun W tk => ⟨_, ps_pass, fun D σ H ι ρ μ sr rl h => h ι H σ (List.prefix_refl _) (HM.refl _) sr rl⟩
theorem DS.brk : DS κ X (.Break pos) sBreak := fun W tk => ⟨_, ps_break, fun D σ H ι ρ μ sr rl h => h ι H σ (List.prefix_refl _) (HM.refl _) sr rl⟩
theorem DS.cont : DS κ X (.Continue pos) sCont := fun W tk => ⟨_, ps_continue, fun D σ H ι ρ μ sr rl h => h ι H σ (List.prefix_refl _) (HM.refl _) sr rl⟩
theorem DS.never : DS κ X st sNever := fun W tk => ⟨_, ps_never, fun D σ H ι ρ μ sr rl h => False.elim h⟩
theorem DSs.never : DSs κ X sts sNever := fun W tk => ⟨_, pss_never, fun D σ H ι ρ μ sr rl h => False.elim h⟩
theorem DS.ifs {t : Expr} {x y : List Stmt} (ht : DT κ X t ta) (h1 : DSs κ X x s1) (h2 : DSs κ X y s2) : DS κ X (.If t x y pos) (sIf ta s1 s2) := fun W tk => by
  obtain ⟨t0, p0, i0⟩ := ht W tk
  obtain ⟨t1, p1, i1⟩ := h1 W tk
  obtain ⟨t2, p2, i2⟩ := h2 W tk
  refine ⟨_, ps_if p0 p1 p2, fun D σ H ι ρ μ sr rl h => ?_⟩
  refine i0 σ H _ ι ρ μ sr rl (PO'.bind rl h fun b μ1 ι1 H1 p1 m1 sr1 h1 => ?_)
  cases b with
  | true => exact iteT (i1 D σ H1 ι1 ρ μ1 sr1 (rl.mono p1 m1) h1)
  | false => exact iteF (i2 D σ H1 ι1 ρ μ1 sr1 (rl.mono p1 m1) h1)
theorem DS.set {i : Nat} {x : Str} (hN : X.N.Nodup) (hi : X.N[i]? = some x) (hx : L2.Loc X.env.scope x) (ha : DE κ X a ra) (hs : swapsWith a (some (.Name x pos')) pos.line X.env = pure false := by rfl)
    (hf : X.fn x = true ∨ X.env.scope.names.lookup x = some .local := by first | exact .inl rfl | exact .inr rfl | assumption) : DS κ X (.Assign [.Name x pos'] a pos) (sSet i ra) := fun W tk => by
  obtain ⟨t, p, j⟩ := ha W tk
  refine ⟨_, ps_set hN hi hx p hs hf, fun D σ H ι ρ μ sr rl h => ?_⟩
  exact j σ H _ ι ρ μ sr rl (PO'.bind rl h fun v μ1 ι1 H1 p1 m1 sr1 h1 x rx => h1 ι1 H1 _ (List.prefix_refl _) (HM.refl _) sr1 ((rl.mono p1 m1).set rx))

def sAug (i : Nat) (g : G2) (r : AE) : AS := fun ρ μ => match ρ[i]? with
  | some (some x) => (r ρ μ).out ρ fun y μ1 => (g x y μ1).out ρ fun z μ2 => .nx (ρ.set i (some z)) μ2
  | _ => .bad
def gIAdd : G2 := fun x y μ => match x, y with
  | .int i, .int j => .ok (.int (i + j)) μ
  | _, _ => .bad
def gISub : G2 := fun x y μ => match x, y with
  | .int i, .int j => .ok (.int (i - j)) μ
  | _, _ => .bad
theorem ip_gAdd {W : WX} : PIp X .Add (rA X.K κ W gIAdd) := by
  intro pins s σ H x y v u Q I rx ry hh
  obtain ⟨σ0, ι, μ, a, b, sr, ra, rb, h⟩ := hh
  cases a <;> cases b <;> first | exact False.elim h | skip
  cases ra; cases rb
  exact ip_add pins s σ H _ _ v u Q I rx ry ⟨_, _, rfl, rfl, ok1 sr h (.int _)⟩
theorem ip_gSub {W : WX} : PIp X .Sub (rA X.K κ W gISub) := by
  intro pins s σ H x y v u Q I rx ry hh
  obtain ⟨σ0, ι, μ, a, b, sr, ra, rb, h⟩ := hh
  cases a <;> cases b <;> first | exact False.elim h | skip
  cases ra; cases rb
  exact ip_sub pins s σ H _ _ v u Q I rx ry ⟨_, _, rfl, rfl, ok1 sr h (.int _)⟩
theorem DS.aug {i : Nat} {x : Str} {op : Operator} (hN : X.N.Nodup) (hi : X.N[i]? = some x) (hx : L2.Loc X.env.scope x) (ho : ∀ W, PIp X op (rA X.K κ W g)) (ha : DE κ X a ra)
    (hf : X.fn x = true ∨ X.env.scope.names.lookup x = some .local := by first | exact .inl rfl | exact .inr rfl | assumption) : DS κ X (.AugAssign (.Name x pos') op a pos) (sAug i g ra) := fun W tk => by
  obtain ⟨t, p, j⟩ := ha W tk
  refine ⟨_, ps_aug hN hi hx p (ho W) hf, fun D σ H ι ρ μ sr rl h => ?_⟩
  unfold sAug at h
  split at h
  · rename_i v ev
    obtain ⟨xv, e1, r1⟩ := rl.2 i v ev
    refine ⟨xv, e1, j σ H _ ι ρ μ sr rl (PO'.bind rl h fun y μ1 ι1 H1 p1 m1 sr1 h1 yv ry => ?_)⟩
    refine ⟨σ, ι1, μ1, v, y, sr1, r1.mono p1 m1, ry, PO'.bind (rl.mono p1 m1) h1 fun z μ2 ι2 H2 p2 m2 sr2 h2 zv rz => ?_⟩
    exact h2 ι2 H2 _ (List.prefix_refl _) (HM.refl _) sr2 (((rl.mono p1 m1).mono p2 m2).set rz)
  · exact False.elim h


abbrev AG := AV → Loc → Option Loc
def gNm (i : Nat) : AG := fun v ρ => some (ρ.set i (some v))
abbrev AGs := List AV → Loc → Option Loc
def gN0 : AGs := fun vs ρ => match vs with
  | [] => some ρ
  | _ => none
def gN1 (g : AG) (gs : AGs) : AGs := fun vs ρ => match vs with
  | v :: r => match g v ρ with
    | some ρ1 => gs r ρ1
    | none => none
  | [] => none
def gTp (gs : AGs) : AG := fun v ρ => match v with
  | .tup xs => gs xs ρ
  | _ => none
def ImG (K : PySem.W.Frag) (κ : Kap) (is : List Nat) (t : TG) (g : AG) : Prop := ∀ (v : AV) (x : V) (σ : St) (H : Hp) (Q : St → Hp → Prop) (ι : List Addr) (ρ ρ' : Loc), RelS K κ ι H ρ σ → Rel K κ ι H v x → g v ρ = some ρ' →
  (∀ σ', RelS K κ ι H ρ' σ' → (∀ vs : List Nat, (∀ i ∈ is, i ∈ vs) → wipe σ' vs = wipe σ vs) → Q σ' H) → t x σ H Q
def ImGs (K : PySem.W.Frag) (κ : Kap) (is : List Nat) (t : TGs) (g : AGs) : Prop := ∀ (v : List AV) (x : List V) (σ : St) (H : Hp) (Q : St → Hp → Prop) (ι : List Addr) (ρ ρ' : Loc), RelS K κ ι H ρ σ → RelL K κ ι H v x → g v ρ = some ρ' →
  (∀ σ', RelS K κ ι H ρ' σ' → (∀ vs : List Nat, (∀ i ∈ is, i ∈ vs) → wipe σ' vs = wipe σ vs) → Q σ' H) → t x σ H Q
def DG (κ : Kap) (X : Cx) (e : Expr) (is : List Nat) (g : AG) : Prop := ∃ t, L2.PG X e t ∧ ImG X.K κ is t g
def DGs (κ : Kap) (X : Cx) (e : List Expr) (is : List Nat) (g : AGs) : Prop := ∃ t, PGs X e t ∧ ImGs X.K κ is t g
theorem wipe_set {σ : St} {i : Nat} {x : Option V} : ∀ {vs : List Nat}, i ∈ vs → wipe (σ.set i x) vs = wipe σ vs
  | [], h => by cases h
  | v :: vs, h => by
    unfold wipe
    by_cases e : i ∈ vs
    · rw [wipe_set e]
    · have ei : i = v := by
        rcases List.mem_cons.mp h with h | h
        · exact h
        · exact absurd h e
      subst ei
      have go : ∀ {ws : List Nat} (τ : St), i ∉ ws → wipe (τ.set i x) ws = (wipe τ ws).set i x := by
        intro ws
        induction ws with
        | nil => intro τ _; rfl
        | cons w ws ih =>
          intro τ hn
          simp only [List.mem_cons, not_or] at hn
          unfold wipe
          rw [ih τ hn.2, List.set_comm _ _ hn.1]
      rw [go σ e, List.set_set]
theorem DG.name {i : Nat} {x : Str} (hN : X.N.Nodup) (hi : X.N[i]? = some x) (hx : L2.Loc X.env.scope x) (hf : X.fn x = true ∨ X.env.scope.names.lookup x = some .local := by first | exact .inl rfl | exact .inr rfl | assumption) : DG κ X (.Name x pos) [i] (gNm i) :=
  ⟨_, pg_name hN hi hx hf, fun v x σ H Q ι ρ ρ' rl r e h => by
    cases e
    exact h _ (rl.set r) fun vs hv => wipe_set (hv i (by simp))⟩
theorem DGs.nil : DGs κ X [] [] gN0 := ⟨_, pgs_nil, fun v x σ H Q ι ρ ρ' rl r e h => by
  cases r with
  | nil =>
    cases e
    exact ⟨rfl, h σ rl fun _ _ => rfl⟩
  | cons _ _ => cases e⟩
theorem DGs.cons {is js : List Nat} {g : AG} {gs : AGs} (h1 : DG κ X e is g) (h2 : DGs κ X es js gs) (hs : (assignEach (e :: es) X.env).map (·.2) = assign e X.env :: (assignEach es X.env).map (·.2) := by rfl) : DGs κ X (e :: es) (is ++ js) (gN1 g gs) := by
  obtain ⟨t, p, i⟩ := h1
  obtain ⟨u, q, j⟩ := h2
  refine ⟨_, pgs_cons p q hs, fun v x σ H Q ι ρ ρ' rl r e h => ?_⟩
  cases r with
  | nil => cases e
  | cons r1 r2 =>
    rename_i v1 x1 vs xs
    simp only [gN1] at e
    cases e1 : g v1 ρ with
    | none => rw [e1] at e; cases e
    | some ρ1 =>
      rw [e1] at e
      refine ⟨x1, xs, rfl, i v1 x1 σ H _ ι ρ ρ1 rl r1 e1 fun σ1 rl1 w1 => j vs xs σ1 H _ ι ρ1 ρ' rl1 r2 e fun σ2 rl2 w2 => h σ2 rl2 fun ws hw => ?_⟩
      rw [w2 ws fun i hi => hw i (List.mem_append_right _ hi), w1 ws fun i hi => hw i (List.mem_append_left _ hi)]
theorem gN_len : ∀ {gs : AGs} {vs : List AV} {ρ ρ' : Loc} {n : Nat}, (∀ vs ρ ρ', gs vs ρ = some ρ' → vs.length = n) → gs vs ρ = some ρ' → vs.length = n := fun h e => h _ _ _ e
theorem DG.tup {is : List Nat} {gs : AGs} {n : Nat} {k : Nat} (hc : X.calm = true) (h : DGs κ X es is gs) (hl : ∀ vs ρ ρ', gs vs ρ = some ρ' → vs.length = n) (hn : (assignEach es X.env).length = n := by rfl) (hst : (assignEach es X.env).findIdx? (·.1) = none := by rfl) :
    DG κ X (.Tuple es k pos) is (gTp gs) := by
  obtain ⟨t, p, i⟩ := h
  refine ⟨_, pg_tup hc p hn hst, fun v x σ H Q ι ρ ρ' rl r e h => ?_⟩
  cases r with
  | tup hq r =>
    exact ⟨_, _, rfl, hq, by rw [← r.length]; exact hl _ _ _ e, i _ _ σ H Q ι ρ ρ' rl r e h⟩
  | _ => cases e
theorem gl0 : ∀ vs ρ ρ', gN0 vs ρ = some ρ' → vs.length = 0 := fun vs ρ ρ' e => by
  cases vs with
  | nil => rfl
  | cons _ _ => cases e
theorem gl1 {g : AG} {gs : AGs} {n : Nat} (h : ∀ vs ρ ρ', gs vs ρ = some ρ' → vs.length = n) : ∀ vs ρ ρ', gN1 g gs vs ρ = some ρ' → vs.length = n + 1 := fun vs ρ ρ' e => by
  cases vs with
  | nil => cases e
  | cons v r =>
    simp only [gN1] at e
    split at e
    · exact congrArg (· + 1) (h _ _ _ e)
    · cases e

def sAsg (r : AE) (g : AG) : AS := fun ρ μ => (r ρ μ).out ρ fun v μ1 => match g v ρ with
  | some ρ1 => .nx ρ1 μ1
  | none => .bad
theorem DS.asg {tg : Expr} {is : List Nat} {g : AG} (ha : DE κ X a ra) (hg : DG κ X tg is g) (hs : swapsWithSole [tg] a pos.line X.env = pure false := by rfl) (hw : swappedStores [tg] a X.env = pure none := by rfl)
    (h1 : (assignEach [tg] X.env).map (·.2) = [assign tg X.env] := by rfl) : DS κ X (.Assign [tg] a pos) (sAsg ra g) := fun W tk => by
  obtain ⟨t, p, j⟩ := ha W tk
  obtain ⟨u, q, l⟩ := hg
  refine ⟨_, ps_asg p q hs hw h1, fun D σ H ι ρ μ sr rl h => ?_⟩
  refine j σ H _ ι ρ μ sr rl (PO'.bind rl h fun v μ1 ι1 H1 p1 m1 sr1 h1 x rx => ?_)
  cases e : g v ρ with
  | none => rw [e] at h1; exact False.elim h1
  | some ρ1 =>
    rw [e] at h1
    exact l v x σ H1 _ ι1 ρ ρ1 (rl.mono p1 m1) rx e fun σ' rl' _ => h1 ι1 H1 σ' (List.prefix_refl _) (HM.refl _) sr1 rl'

def sPar (r : AA) (gs : AGs) : AS := fun ρ μ => (r ρ μ).out ρ fun vs μ1 => if vs.length ≤ 16777216 then (match gs vs ρ with
  | some ρ1 => .nx ρ1 μ1
  | none => .bad) else .bad
theorem DS.parG {ts : List Expr} {is : List Nat} {gs : AGs} {n k k2 : Nat} {pt p3 : Pos} (hc : X.calm = true) (ha : DA κ X es rs) (hg : DGs κ X ts is gs) (hl : ∀ vs ρ ρ', gs vs ρ = some ρ' → vs.length = n)
    (hw : swappedStores [.Tuple ts k pt] (.Tuple es k2 p3) X.env = pure none := by rfl) (hs : swapsWithSole [.Tuple ts k pt] (.Tuple es k2 p3) pos.line X.env = pure false := by rfl)
    (h1 : (assignEach [.Tuple ts k pt] X.env).map (·.2) = [assign (.Tuple ts k pt) X.env] := by rfl) (hn : (assignEach ts X.env).length = n := by rfl) (hst : (assignEach ts X.env).findIdx? (·.1) = none := by rfl) :
    DS κ X (.Assign [.Tuple ts k pt] (.Tuple es k2 p3) pos) (sPar rs gs) := fun W tk => by
  obtain ⟨t, p, i⟩ := DS.asg (κ := κ) (pos := pos) (DE.tup (x1 := k2) (pos := p3) ha) (DG.tup (k := k) (pos := pt) hc hg hl hn hst) hs hw h1 W tk
  refine ⟨t, p, fun D σ H ι ρ μ sr rl h => i D σ H ι ρ μ sr rl ?_⟩
  revert h
  unfold sPar sAsg eTup
  cases rs ρ μ with
  | ok vs μ1 =>
    simp only [Res.out_ok, Res.bind_ok]
    by_cases hz : vs.length ≤ 16777216
    · simp only [if_pos hz, Res.out_ok, gTp]
      exact id
    · simp only [if_neg hz, Res.out_bad]
      exact id
  | ex c v μ1 => exact id
  | bad => exact id
theorem DS.par2 {i j : Nat} {x y : Str} {px py pt : Pos} {kt k2 pt2} (hc : X.calm = true) (hN : X.N.Nodup) (hi : X.N[i]? = some x) (hj : X.N[j]? = some y) (hij : i ≠ j)
    (hx : X.env.scope.names.lookup x = some .local) (hy : X.env.scope.names.lookup y = some .local) (ha : DA κ X [a, b] rs)
    (hw : swappedStores [.Tuple [.Name x px, .Name y py] kt pt] (.Tuple [a, b] k2 pt2) X.env = pure (some [x, y]))
    (hs : swapsWithSole [.Tuple [.Name x px, .Name y py] kt pt] (.Tuple [a, b] k2 pt2) pos.line X.env = pure false := by rfl) :
    DS κ X (.Assign [.Tuple [.Name x px, .Name y py] kt pt] (.Tuple [a, b] k2 pt2) pos) (sPar rs (gN1 (gNm i) (gN1 (gNm j) gN0))) := fun W tk => by
  obtain ⟨t, p, l⟩ := ha W tk
  refine ⟨_, ps_par hc hN hi hj hij hx hy p hw hs, fun D σ H ι ρ μ sr rl h => ?_⟩
  refine l σ H _ ι ρ μ sr rl (PO'.bind rl h fun vs μ1 ι1 H1 p1 m1 sr1 h1 xs rx => ?_)
  split at h1
  · match vs, rx with
    | [v, w], .cons r1 (.cons r2 .nil) => exact ⟨_, _, rfl, h1 ι1 H1 _ (List.prefix_refl _) (HM.refl _) sr1 (((rl.mono p1 m1).set r1).set r2)⟩
    | [], .nil => exact False.elim h1
    | [_], .cons _ .nil => exact False.elim h1
    | _ :: _ :: _ :: _, .cons _ (.cons _ (.cons _ _)) => exact False.elim h1
  · exact False.elim h1
theorem DS.par3 {i j l : Nat} {x y z : Str} {px py pz pt : Pos} {kt k2 pt2} (hc : X.calm = true) (hN : X.N.Nodup) (hi : X.N[i]? = some x) (hj : X.N[j]? = some y) (hl : X.N[l]? = some z) (hij : i ≠ j) (hil : i ≠ l) (hjl : j ≠ l)
    (hx : X.env.scope.names.lookup x = some .local) (hy : X.env.scope.names.lookup y = some .local) (hz : X.env.scope.names.lookup z = some .local) (ha : DA κ X [a, b, c] rs)
    (hw : swappedStores [.Tuple [.Name x px, .Name y py, .Name z pz] kt pt] (.Tuple [a, b, c] k2 pt2) X.env = pure (some [x, y, z]))
    (hs : swapsWithSole [.Tuple [.Name x px, .Name y py, .Name z pz] kt pt] (.Tuple [a, b, c] k2 pt2) pos.line X.env = pure false := by rfl) :
    DS κ X (.Assign [.Tuple [.Name x px, .Name y py, .Name z pz] kt pt] (.Tuple [a, b, c] k2 pt2) pos) (sPar rs (gN1 (gNm i) (gN1 (gNm j) (gN1 (gNm l) gN0)))) := fun W tk => by
  obtain ⟨t, p, q⟩ := ha W tk
  refine ⟨_, ps_par3 hc hN hi hj hl hij hil hjl hx hy hz p hw hs, fun D σ H ι ρ μ sr rl h => ?_⟩
  refine q σ H _ ι ρ μ sr rl (PO'.bind rl h fun vs μ1 ι1 H1 p1 m1 sr1 h1 xs rx => ?_)
  split at h1
  · match vs, rx with
    | [v, w, u], .cons r1 (.cons r2 (.cons r3 .nil)) => exact ⟨_, _, _, rfl, h1 ι1 H1 _ (List.prefix_refl _) (HM.refl _) sr1 ((((rl.mono p1 m1).set r1).set r2).set r3)⟩
    | [], .nil => exact False.elim h1
    | [_], .cons _ .nil => exact False.elim h1
    | [_, _], .cons _ (.cons _ .nil) => exact False.elim h1
    | _ :: _ :: _ :: _ :: _, .cons _ (.cons _ (.cons _ (.cons _ _))) => exact False.elim h1
  · exact False.elim h1
end
end Lr


namespace Lr
open PySem PySem.Spec L2
open PyProof.Rows hiding St

def FUEL : Nat := 1000000000000
def whileF (t : AT) (b : AS) : Nat → AS
  | 0 => fun _ _ => .bad
  | n + 1 => fun ρ μ => (t ρ μ).out ρ fun k μ1 => if k then (match b ρ μ1 with
      | .nx ρ2 μ2 => whileF t b n ρ2 μ2
      | .ct ρ2 μ2 => whileF t b n ρ2 μ2
      | .bk ρ2 μ2 => .nx ρ2 μ2
      | o => o) else .nx ρ μ1
def sWhile (t : AT) (b : AS) : AS := whileF t b FUEL

inductive Src where
  | dat (xs : List AV)
  | live (n : Nat)
def Src.at (s : Src) (i : Nat) (μ : Store) : Option (Option AV) := match s with
  | .dat xs => some xs[i]?
  | .live n => match μ[n]? with
    | some (.lst xs) => some xs[i]?
    | _ => none
abbrev AI := Loc → Store → Res Src
def forF (g : AG) (b : AS) (src : Src) : Nat → Nat → AS
  | 0, _ => fun _ _ => .bad
  | m + 1, i => fun ρ μ => match src.at i μ with
    | none => .bad
    | some none => .nx ρ μ
    | some (some v) => match g v ρ with
      | none => .bad
      | some ρ1 => match b ρ1 μ with
        | .nx ρ2 μ2 => forF g b src m (i + 1) ρ2 μ2
        | .ct ρ2 μ2 => forF g b src m (i + 1) ρ2 μ2
        | .bk ρ2 μ2 => .nx ρ2 μ2
        | o => o
def sFor (it : AI) (g : AG) (b : AS) : AS := fun ρ μ => (it ρ μ).out ρ fun src μ1 => forF g b src FUEL 0 ρ μ1

section
variable {κ : Kap} {X : Cx} {a b c e : Expr} {ra rb rc r : AE} {pos p2 pos' : Pos} {g g' : G2} {k : Nat} {es : List Expr} {rs : AA} {st : Stmt} {sts : List Stmt} {s1 s2 : AS} {ta : AT}
theorem DS.whl {c : Expr} {body : List Stmt} {t : AT} {b : AS} (hp : PassesOwn (model X.prog X.w) X.A X.env X.xe) (hc : DT κ X c t) (hb : DSs κ X body b) : DS κ X (.While c body [] pos) (sWhile t b) := fun W tk => by
  obtain ⟨t0, p0, i0⟩ := hc W tk
  obtain ⟨t1, p1, i1⟩ := hb W tk
  refine ⟨_, ps_while hp p0 p1, fun D σ H ι ρ μ sr rl h => ?_⟩
  refine ⟨fun m σ' H' => ∃ (ι' : List Addr) (ρ' : Loc) (μ' : Store), HM ι H ι' H' ∧ SR X.K κ ι' μ' H' ∧ RelS X.K κ ι' H' ρ' σ' ∧ PO' X.K κ W ι' H' D (whileF t b m ρ' μ'), ⟨FUEL, ι, ρ, μ, HM.refl _, sr, rl, h⟩, ?_⟩
  rintro m σ' H' ⟨ι', ρ', μ', hm, sr', rl', h'⟩
  cases m with
  | zero => exact False.elim h'
  | succ m =>
    refine i0 σ' H' _ ι' ρ' μ' sr' rl' (PO'.bind rl' h' fun q μ1 ι1 H1 q1 m1 sr1 h1 => ?_)
    cases q with
    | false =>
      exact iteF (h1 ι1 H1 σ' (List.prefix_refl _) (HM.refl _) sr1 (rl'.mono q1 m1))
    | true =>
      refine iteT ⟨fun σ2 H2 => ∃ (ι2 : List Addr) (ρ2 : Loc) (μ2 : Store), HM ι H ι2 H2 ∧ SR X.K κ ι2 μ2 H2 ∧ RelS X.K κ ι2 H2 ρ2 σ2 ∧ PO' X.K κ W ι2 H2 D (whileF t b m ρ2 μ2), fun σ2 H2 z => ⟨m, Nat.lt_succ_self _, z⟩, ?_⟩
      refine i1 _ σ' H1 ι1 ρ' μ1 sr1 (rl'.mono q1 m1) ?_
      simp only [if_true] at h1
      cases eb : b ρ' μ1 with
      | nx ρ2 μ2 => rw [eb] at h1; exact fun ι2 H2 σ2 q2 m2 sr2 rl2 => ⟨ι2, ρ2, μ2, (hm.trans m1).trans m2, sr2, rl2, PO'.mono q2 m2 h1⟩
      | ct ρ2 μ2 => rw [eb] at h1; exact fun ι2 H2 σ2 q2 m2 sr2 rl2 => ⟨ι2, ρ2, μ2, (hm.trans m1).trans m2, sr2, rl2, PO'.mono q2 m2 h1⟩
      | bk ρ2 μ2 => rw [eb] at h1; exact h1
      | rt v μ2 => rw [eb] at h1; exact h1
      | ex c v ρ2 μ2 => rw [eb] at h1; exact h1
      | bad => rw [eb] at h1; exact h1



def JR (K : PySem.W.Frag) (κ : Kap) (ι₀ : List Addr) (H₀ : Hp) (src : Src) (J : It) : Prop := ∀ (i : Nat) (ι : List Addr) (H : Hp) (μ : Store), HV ι₀ H₀ ι H → SR K κ ι μ H → match src.at i μ with
  | none => True
  | some none => J.stop i H
  | some (some v) => J.go i H ∧ ∀ x H', J.yld i H x H' → HM ι H ι H' ∧ SR K κ ι μ H' ∧ Rel K κ ι H' v x
def DI (κ : Kap) (X : Cx) (tg e : Expr) (r : AI) : Prop := ∀ W : WX, Takes X W → ∃ wi : TI, PI X tg e wi ∧ ∀ (σ : St) (H : Hp) (R : It → Hp → Prop) (ι : List Addr) (ρ : Loc) (μ : Store), SR X.K κ ι μ H → RelS X.K κ ι H ρ σ →
  PG X.K κ W σ ι H (fun src ι' H' => ∀ J, JR X.K κ ι' H' src J → R J H') (r ρ μ) → wi σ H R
theorem DS.fr {tg iter : Expr} {body : List Stmt} {is : List Nat} {it : AI} {g : AG} {b : AS} (hp : PassesOwn (model X.prog X.w) X.A X.env X.xe) (hc : X.calm = true) (hi : DI κ X tg iter it) (hg : DG κ X tg is g) (hb : DSs κ X body b)
    (hs : ∀ x, foldedSetIterable iter X.env x = pure x := by intro _; rfl) : DS κ X (.For tg iter body [] pos) (sFor it g b) := fun W tk => by
  obtain ⟨wi, p0, i0⟩ := hi W tk
  obtain ⟨tg', pg, ig⟩ := hg
  obtain ⟨t1, p1, i1⟩ := hb W tk
  refine ⟨_, ps_for hp hc p0 pg p1 hs, fun D σ H ι ρ μ sr rl h => ?_⟩
  refine i0 σ H _ ι ρ μ sr rl (PO'.bind rl h fun src μ1 ι1 H1 q1 m1 sr1 h1 J hJ => ?_)
  refine ⟨fun i m σ' H' => ∃ (ι' : List Addr) (ρ' : Loc) (μ' : Store), HM ι1 H1 ι' H' ∧ SR X.K κ ι' μ' H' ∧ RelS X.K κ ι' H' ρ' σ' ∧ PO' X.K κ W ι' H' D (forF g b src m i ρ' μ'), ⟨FUEL, ι1, ρ, μ1, HM.refl _, sr1, rl.mono q1 m1, h1⟩, ?_⟩
  rintro i m σ' H' ⟨ι', ρ', μ', hm, sr', rl', h'⟩
  cases m with
  | zero => exact False.elim h'
  | succ m =>
    have hj := hJ i ι' H' μ' hm.v sr'
    unfold forF at h'
    cases e : src.at i μ' with
    | none => rw [e] at h'; exact False.elim h'
    | some o =>
      rw [e] at h' hj
      cases o with
      | none => exact .inl ⟨hj, h' ι' H' σ' (List.prefix_refl _) (HM.refl _) sr' rl'⟩
      | some v =>
        simp only at h' hj
        cases eg : g v ρ' with
        | none => rw [eg] at h'; exact False.elim h'
        | some ρ1 =>
          rw [eg] at h'
          refine .inr ⟨hj.1, fun σ2 H2 => ∃ (ι2 : List Addr) (ρ2 : Loc) (μ2 : Store), HM ι1 H1 ι2 H2 ∧ SR X.K κ ι2 μ2 H2 ∧ RelS X.K κ ι2 H2 ρ2 σ2 ∧ PO' X.K κ W ι2 H2 D (forF g b src m (i + 1) ρ2 μ2), fun σ2 H2 z => ⟨m, Nat.lt_succ_self _, z⟩, fun x H2 hy => ?_⟩
          obtain ⟨m2, sr2, rx⟩ := hj.2 x H2 hy
          refine ig v x σ' H2 _ ι' ρ' ρ1 (rl'.mono (List.prefix_refl _) m2) rx eg fun σ3 rl3 _ => ?_
          refine i1 _ σ3 H2 ι' ρ1 μ' sr2 rl3 ?_
          simp only at h'
          have h' := PO'.mono (List.prefix_refl _) m2 h'
          cases eb : b ρ1 μ' with
          | nx ρ2 μ2 => rw [eb] at h'; exact fun ι4 H4 σ4 q4 m4 sr4 rl4 => ⟨ι4, ρ2, μ2, (hm.trans m2).trans m4, sr4, rl4, PO'.mono q4 m4 h'⟩
          | ct ρ2 μ2 => rw [eb] at h'; exact fun ι4 H4 σ4 q4 m4 sr4 rl4 => ⟨ι4, ρ2, μ2, (hm.trans m2).trans m4, sr4, rl4, PO'.mono q4 m4 h'⟩
          | bk ρ2 μ2 => rw [eb] at h'; exact h'
          | rt v μ2 => rw [eb] at h'; exact h'
          | ex c v ρ2 μ2 => rw [eb] at h'; exact h'
          | bad => rw [eb] at h'; exact h'


def iAny (r : AE) : AI := fun ρ μ => (r ρ μ).bind fun x μ1 => match x with
  | .tup xs => .ok (.dat xs) μ1
  | .lst xs => .ok (.dat xs) μ1
  | .loc n => match μ1[n]? with
    | some (.lst _) => .ok (.live n) μ1
    | _ => .bad
  | _ => .bad
def iStrA (r : AE) : AI := fun ρ μ => (r ρ μ).bind fun x μ1 => match x with
  | .str z => .ok (.dat (z.cps.toList.map fun c => .str ⟨#[c]⟩)) μ1
  | _ => .bad
def rangeL (lo : Int) (n : Nat) : List AV := (List.range n).map fun i : Nat => .int (lo + i)
def iRng (r : AA) : AI := fun ρ μ => (r ρ μ).bind fun xs μ1 => match xs with
  | [.int j] => if decide (-(2 ^ 62) ≤ j) && decide (j < 2 ^ 62) then .ok (.dat (rangeL 0 j.toNat)) μ1 else .bad
  | _ => .bad
def iRng2 (r : AA) : AI := fun ρ μ => (r ρ μ).bind fun xs μ1 => match xs with
  | [.int i, .int j] => if decide (-(2 ^ 62) ≤ i) && decide (i < 2 ^ 62) && decide (-(2 ^ 62) ≤ j) && decide (j < 2 ^ 62) then .ok (.dat (rangeL i (j - i).toNat)) μ1 else .bad
  | _ => .bad
variable {tg iter : Expr}
theorem JR.seq {K : PySem.W.Frag} {ι : List Addr} {H : Hp} {xs : List AV} {vs : List V} {J : It} (rl : RelL K κ ι H xs vs) (hs : ∀ (i : Nat) (ι' : List Addr) (H' : Hp), HV ι H ι' H' → vs.length ≤ i → J.stop i H') (hg : ∀ (i : Nat) (x : V) (ι' : List Addr) (H' : Hp), HV ι H ι' H' → vs[i]? = some x → J.go i H' ∧ ∀ y H2, J.yld i H' y H2 → H2 = H' ∧ y = x) : JR K κ ι H (.dat xs) J := fun i ι' H' μ hm sr => by
  simp only [Src.at]
  cases e : xs[i]? with
  | none => exact hs i ι' H' hm (by rw [← rl.length]; exact List.getElem?_eq_none_iff.mp e)
  | some v =>
    obtain ⟨x, ex, rx⟩ := rl.get e
    obtain ⟨h1, h2⟩ := hg i x ι' H' hm ex
    refine ⟨h1, fun y H2 hy => ?_⟩
    obtain ⟨rfl, rfl⟩ := h2 y H2 hy
    exact ⟨HM.refl _, sr, rx.monoW hm.pre hm.w⟩
theorem JR.tup {K : PySem.W.Frag} {ι : List Addr} {H : Hp} {xs : List AV} {vs : List V} {p : Addr} (hq : SqT K H p vs) (rl : RelL K κ ι H xs vs) : JR K κ ι H (.dat xs) (Itt K p) :=
  JR.seq rl (fun i ι' H' hm hl => ⟨vs, hm.w.seqT hq, hl⟩) fun i x ι' H' hm ex => ⟨⟨vs, x, hm.w.seqT hq, ex⟩, fun y H2 hy => by
    obtain ⟨e, h⟩ := hy
    have := h vs (hm.w.seqT hq)
    rw [ex] at this
    exact ⟨e, (Option.some.inj this).symm⟩⟩
theorem JR.lst {K : PySem.W.Frag} {ι : List Addr} {H : Hp} {xs : List AV} {vs : List V} {p : Addr} (hq : FzL K H p vs) (rl : RelL K κ ι H xs vs) : JR K κ ι H (.dat xs) (Itl K p) :=
  JR.seq rl (fun i ι' H' hm hl => ⟨vs, (hm.w.fz hq).sq, hl⟩) fun i x ι' H' hm ex => ⟨⟨vs, x, (hm.w.fz hq).sq, ex⟩, fun y H2 hy => by
    obtain ⟨e, h⟩ := hy
    have := h vs (hm.w.fz hq).sq
    rw [ex] at this
    exact ⟨e, (Option.some.inj this).symm⟩⟩
theorem JR.live {K : PySem.W.Frag} {ι : List Addr} {H : Hp} {n : Nat} {p : Addr} (hp : ι[n]? = some p) : JR K κ ι H (.live n) (Itl K p) := fun i ι' H' μ hm sr => by
  simp only [Src.at]
  have hp' := get_prefix hm.pre hp
  split
  · trivial
  · rename_i e
    split at e
    · rename_i xs q
      obtain ⟨vs, e1, r1⟩ := sr.obj n _ p q hp'
      exact ⟨vs, .inl (.inl e1), by rw [← r1.length]; exact List.getElem?_eq_none_iff.mp (Option.some.inj e)⟩
    · cases e
  · rename_i v e
    split at e
    · rename_i xs q
      obtain ⟨vs, e1, r1⟩ := sr.obj n _ p q hp'
      obtain ⟨x, ex, rx⟩ := r1.get (Option.some.inj e)
      refine ⟨⟨vs, x, .inl (.inl e1), ex⟩, fun y H2 hy => ?_⟩
      obtain ⟨rfl, h⟩ := hy
      have := h vs (.inl (.inl e1))
      rw [ex] at this
      cases this
      exact ⟨HM.refl _, sr, rx⟩
    · cases e
theorem iter_lst {pins : List (Addr × Obj)} {σ : St} {H : Hp} {s : Shared} {R : It → Hp → Prop} {E : Value → Shared → Prop} {q : Addr} {vs : List V} (I : Inv X pins σ H s) (hq : SqL X.K H q vs) (h : R (Itl X.K q) H) : wpAny (model X.prog X.w) X.A (pyIter (.ref q)) (PIE X pins σ tg R) E s := by
  obtain ⟨its, rv, p, _⟩ := I.list hq
  have fr : ∀ b ∈ [s.heap.objs.size], FpOk X pins H b := fun b hb => by
    obtain rfl : b = s.heap.objs.size := List.mem_singleton.mp hb
    exact I.fpOk (Nat.le_refl _) (I.hok.fresh (Nat.le_refl _))
  refine wpAny_pyIter_list p.isList ⟨s.heap.objs.size, _, _, Itl X.K q, H, rfl, ?_, turn_list q _, ?_, fr, h⟩
  · exact I.kept (t' := s.toks) fun b o e => Heap.get?_push_of_some _ e
  · exact ⟨_, Heap.get?_push_size _ rfl, rfl, rfl⟩
theorem iter_tup {pins : List (Addr × Obj)} {σ : St} {H : Hp} {s : Shared} {R : It → Hp → Prop} {E : Value → Shared → Prop} {q : Addr} {vs : List V} (I : Inv X pins σ H s) (hq : SqT X.K H q vs) (h : R (Itt X.K q) H) : wpAny (model X.prog X.w) X.A (pyIter (.ref q)) (PIE X pins σ tg R) E s := by
  obtain ⟨its, rv, p, _⟩ := I.tuple hq
  have fr : ∀ b ∈ [s.heap.objs.size], FpOk X pins H b := fun b hb => by
    obtain rfl : b = s.heap.objs.size := List.mem_singleton.mp hb
    exact I.fpOk (Nat.le_refl _) (I.hok.fresh (Nat.le_refl _))
  refine wpAny_pyIter_tuple (show s.heap.IsTuple q its.toArray from p) ⟨s.heap.objs.size, _, _, Itt X.K q, H, rfl, ?_, turn_tuple q _, ?_, fr, h⟩
  · exact I.kept (t' := s.toks) fun b o e => Heap.get?_push_of_some _ e
  · exact ⟨_, Heap.get?_push_size _ rfl, rfl, rfl⟩
theorem DI.any (ha : DE κ X a ra) : DI κ X tg a (iAny ra) := fun W tk => by
  obtain ⟨t, p, i⟩ := ha W tk
  refine ⟨fun σ H R => t σ H fun x H1 => ∃ q, x = .ref q ∧ (((∃ vs, SqL X.K H1 q vs) ∧ R (Itl X.K q) H1) ∨ ((∃ vs, SqT X.K H1 q vs) ∧ R (Itt X.K q) H1)), ⟨fun pins s σ H R I h => ?_⟩, fun σ H R ι ρ μ sr rl h => ?_⟩
  · refine thn (p.run pins s σ H _ I h) fun v s1 ⟨x, H1, I1, r1, q, e, h1⟩ => ?_
    subst e
    obtain rfl : v = Value.ref q := r1
    rcases h1 with ⟨⟨vs, hq⟩, h1⟩ | ⟨⟨vs, hq⟩, h1⟩
    · exact iter_lst I1 hq h1
    · exact iter_tup I1 hq h1
  · refine i σ H _ ι ρ μ sr rl (PG.bind0 h fun x μ1 ι1 H1 p1 m1 sr1 h1 v rv => ?_)
    cases rv <;> first | exact False.elim h1 | skip
    · rename_i xs q vs hq rl
      exact ⟨q, rfl, .inr ⟨⟨vs, hq⟩, h1 ι1 H1 p1 m1 sr1 _ (JR.tup hq rl)⟩⟩
    · rename_i xs q vs hq rl
      exact ⟨q, rfl, .inl ⟨⟨vs, hq.sq⟩, h1 ι1 H1 p1 m1 sr1 _ (JR.lst hq rl)⟩⟩
    · rename_i n q hq
      simp only at h1
      split at h1
      · rename_i xs e
        obtain ⟨vs, e1, r1⟩ := sr1.obj n _ q e hq
        exact ⟨q, rfl, .inl ⟨⟨vs, .inl (.inl e1)⟩, h1 ι1 H1 p1 m1 sr1 _ (JR.live hq)⟩⟩
      · exact False.elim h1
theorem rangeL_get {lo : Int} {n i : Nat} : (rangeL lo n)[i]? = if i < n then some (.int (lo + i)) else none := by
  unfold rangeL
  rw [List.getElem?_map]
  by_cases h : i < n
  · rw [List.getElem?_range h, if_pos h]; rfl
  · rw [List.getElem?_eq_none (by simpa using h), if_neg h]; rfl
theorem JR.rng {K : PySem.W.Frag} {ι : List Addr} {H : Hp} {lo : Int} {n : Nat} : JR K κ ι H (.dat (rangeL lo n)) (Itr lo n) := fun i ι' H' μ hm sr => by
  simp only [Src.at, rangeL_get]
  by_cases h : i < n
  · rw [if_pos h]
    refine ⟨h, fun x H2 hy => ?_⟩
    obtain ⟨rfl, rfl⟩ := hy
    exact ⟨HM.refl _, sr, .int _⟩
  · rw [if_neg h]
    show n ≤ i
    omega
theorem DI.rng1 {p : Pos} (hg : Gl X "range") (hm : X.mg "range" = none) (ha : DA κ X [a] rs) (hs : starEach [a] X.env = [(false, eval a X.env)] := by rfl) : DI κ X tg (.Call (.Name "range" p) [a] [] pos) (iRng rs) := fun W tk => by
  obtain ⟨t, p, i⟩ := ha W tk
  refine ⟨_, pi_range1 hg hm p hs, fun σ H R ι ρ μ sr rl h => ?_⟩
  refine i σ H _ ι ρ μ sr rl (PG.bind0 h fun xs μ1 ι1 H1 p1 m1 sr1 h1 vs rv => ?_)
  split at h1
  · rename_i j
    match vs, rv with
    | [v], .cons r1 .nil =>
      cases r1
      by_cases hz : (decide (-(2 ^ 62) ≤ j) && decide (j < 2 ^ 62)) = true
      · rw [if_pos hz] at h1
        simp only [Bool.and_eq_true, decide_eq_true_eq] at hz
        exact ⟨j, rfl, hz.1, hz.2, h1 ι1 H1 p1 m1 sr1 _ JR.rng⟩
      · rw [if_neg hz] at h1
        exact False.elim h1
  · exact False.elim h1
theorem DI.rng2 {p : Pos} (hg : Gl X "range") (hm : X.mg "range" = none) (ha : DA κ X [a, b] rs) (hs : starEach [a, b] X.env = [(false, eval a X.env), (false, eval b X.env)] := by rfl) (hs2 : starEach [b] X.env = [(false, eval b X.env)] := by rfl) : DI κ X tg (.Call (.Name "range" p) [a, b] [] pos) (iRng2 rs) := fun W tk => by
  obtain ⟨t, p, i⟩ := ha W tk
  refine ⟨_, pi_range2 hg hm p hs hs2, fun σ H R ι ρ μ sr rl h => ?_⟩
  refine i σ H _ ι ρ μ sr rl (PG.bind0 h fun xs μ1 ι1 H1 p1 m1 sr1 h1 vs rv => ?_)
  split at h1
  · rename_i i j
    match vs, rv with
    | [v, u], .cons r1 (.cons r2 .nil) =>
      cases r1
      cases r2
      by_cases hz : (decide (-(2 ^ 62) ≤ i) && decide (i < 2 ^ 62) && decide (-(2 ^ 62) ≤ j) && decide (j < 2 ^ 62)) = true
      · rw [if_pos hz] at h1
        simp only [Bool.and_eq_true, decide_eq_true_eq] at hz
        exact ⟨i, j, rfl, ⟨hz.1.1.1, hz.1.1.2, hz.1.2, hz.2⟩, h1 ι1 H1 p1 m1 sr1 _ JR.rng⟩
      · rw [if_neg hz] at h1
        exact False.elim h1
  · exact False.elim h1


def kE (K : PySem.W.Frag) (κ : Kap) (W : WX) (r : AE) : TE := fun σ H Q => ∃ (ι : List Addr) (ρ : Loc) (μ : Store), SR K κ ι μ H ∧ RelS K κ ι H ρ σ ∧ PG K κ W σ ι H (CV K κ Q) (r ρ μ)
def kT (K : PySem.W.Frag) (κ : Kap) (W : WX) (r : AT) : TT := fun σ H Q => ∃ (ι : List Addr) (ρ : Loc) (μ : Store), SR K κ ι μ H ∧ RelS K κ ι H ρ σ ∧ PG K κ W σ ι H (CB Q) (r ρ μ)
def kG (K : PySem.W.Frag) (κ : Kap) (is : List Nat) (g : AG) : TG := fun x σ H Q => ∃ (ι : List Addr) (v : AV) (ρ ρ' : Loc), RelS K κ ι H ρ σ ∧ Rel K κ ι H v x ∧ g v ρ = some ρ' ∧ ∀ σ', RelS K κ ι H ρ' σ' → (∀ vs : List Nat, (∀ i ∈ is, i ∈ vs) → wipe σ' vs = wipe σ vs) → Q σ' H
theorem DE.kan {W : WX} (h : DE κ X e r) (tk : Takes X W) : PE X e (kE X.K κ W r) := by
  obtain ⟨t, p, i⟩ := h W tk
  exact ⟨fun pins s σ H Q I ⟨ι, ρ, μ, sr, rl, z⟩ => p.run pins s σ H Q I (i σ H Q ι ρ μ sr rl z)⟩
theorem DT.kan {W : WX} {t : AT} (h : DT κ X e t) (tk : Takes X W) : PT X e (kT X.K κ W t) := by
  obtain ⟨t, p, i⟩ := h W tk
  exact ⟨fun pins s σ H Q I ⟨ι, ρ, μ, sr, rl, z⟩ => p.run pins s σ H Q I (i σ H Q ι ρ μ sr rl z)⟩
theorem DG.kan {is : List Nat} {g : AG} (h : DG κ X e is g) : L2.PG X e (kG X.K κ is g) := by
  obtain ⟨t, p, i⟩ := h
  exact ⟨fun pins s σ H v u Q I rv ⟨ι, w, ρ, ρ', rl, r, eg, z⟩ => p.run pins s σ H v u Q I rv (i w v σ H Q ι ρ ρ' rl r eg z)⟩


def wipeA (ρ : Loc) : List Nat → Loc
  | [] => ρ
  | v :: vs => (wipeA ρ vs).set v none
def Res.nox {α : Type} : Res α → Res α
  | .ok a μ => .ok a μ
  | _ => .bad
@[simp] theorem Res.nox_ok {α : Type} (a : α) (μ : Store) : (Res.ok a μ).nox = .ok a μ := rfl
def lcF (g : AG) (tt : AT) (te : AE) (src : Src) : Nat → Nat → Loc → List AV → Store → Res (List AV)
  | 0, _, _, _, _ => .bad
  | m + 1, i, ρ, acc, μ => match src.at i μ with
    | none => .bad
    | some none => .ok acc μ
    | some (some v) => match g v ρ with
      | none => .bad
      | some ρ1 => (tt ρ1 μ).nox.bind fun b μ1 => if b then (te ρ1 μ1).nox.bind fun y μ2 => if acc.length < 16777216 then lcF g tt te src m (i + 1) ρ (acc ++ [y]) μ2 else .bad
        else lcF g tt te src m (i + 1) ρ acc μ1
def aLc (it : AI) (vs : List Nat) (g : AG) (tt : AT) (te : AE) : AA := fun ρ μ => (it ρ μ).bind fun src μ1 => lcF g tt te src FUEL 0 (wipeA ρ vs) [] μ1
def tTrue : AT := fun _ μ => .ok true μ
theorem RelS.wipe {K : PySem.W.Frag} {ι : List Addr} {H : Hp} {ρ : Loc} {σ : St} (rl : RelS K κ ι H ρ σ) : ∀ vs : List Nat, RelS K κ ι H (wipeA ρ vs) (L2.wipe σ vs)
  | [] => rl
  | v :: vs => by
    have ih := RelS.wipe rl vs
    unfold wipeA L2.wipe
    refine ⟨by simp [ih.1], fun i w e => ?_⟩
    by_cases hi : v = i
    · subst hi
      by_cases hl : v < (wipeA ρ vs).length
      · rw [List.getElem?_set_self hl] at e; cases e
      · rw [List.getElem?_eq_none (by simpa using hl)] at e; cases e
    · rw [List.getElem?_set_ne hi] at e ⊢
      exact ih.2 i w e
theorem wipe_none {τ : St} : ∀ {ws : List Nat}, (∀ w ∈ ws, τ[w]? = none ∨ τ[w]? = some none) → L2.wipe τ ws = τ
  | [], _ => rfl
  | w :: ws, h => by
    have ih := wipe_none (τ := τ) (ws := ws) fun i hi => h i (List.mem_cons_of_mem _ hi)
    show (L2.wipe τ ws).set w none = τ
    rw [ih]
    apply List.ext_getElem?
    intro j
    by_cases hj : w = j
    · subst hj
      rcases h w List.mem_cons_self with q | q
      · rw [q, List.getElem?_eq_none (by simpa using List.getElem?_eq_none_iff.mp q)]
      · rw [q, List.getElem?_set_self (List.getElem?_eq_some_iff.mp q).1]
    · rw [List.getElem?_set_ne hj]
theorem wipe_twice {σ : St} {vs : List Nat} : L2.wipe (L2.wipe σ vs) vs = L2.wipe σ vs := wipe_none fun w hw => by
  cases q : (L2.wipe σ vs)[w]? with
  | none => exact .inl rfl
  | some o =>
    cases o with
    | none => exact .inr rfl
    | some x => exact absurd hw (wipe_some q).2
abbrev W0 : WX := fun _ _ _ _ => False
theorem PG.nox {α : Type} {K : PySem.W.Frag} {W : WX} {σ σ' : St} {ι : List Addr} {H : Hp} {C : α → List Addr → Hp → Prop} {r : Res α} (h : PG K κ W σ ι H C r.nox) : PG K κ W0 σ' ι H C r := by
  cases r with
  | ok a μ => exact h
  | ex c v μ => exact False.elim h
  | bad => exact h
section
variable {elt tg iter : Expr} {ifs : List Expr} {scope : Scope} {own : List (Str × Nat)} {it : AI} {is : List Nat} {g : AG} {tt : AT} {te : AE}
theorem im_lc {wi : TI} {W : WX} {vs : List Nat} (hv : ∀ i ∈ is, i ∈ vs) (hw : ∀ (σ : St) (H : Hp) (R : It → Hp → Prop) (ι : List Addr) (ρ : Loc) (μ : Store), SR X.K κ ι μ H → RelS X.K κ ι H ρ σ → PG X.K κ W σ ι H (fun src ι' H' => ∀ J, JR X.K κ ι' H' src J → R J H') (it ρ μ) → wi σ H R) :
    ∀ σ H Q ι ρ μ, SR X.K κ ι μ H → RelS X.K κ ι H ρ σ → PG X.K κ W σ ι H (fun vs ι' H' => ∀ (a : Addr) (xs : List V), RelL X.K κ ι' H' vs xs → H' a = some (.lst xs) → a ∉ ι' → H a = none → Q (.ref a) H') (aLc it vs g tt te ρ μ) →
      tLc wi (kG X.K κ is g) (kT X.K κ W0 tt) (kE X.K κ W0 te) vs σ H Q := fun σ H Q ι ρ μ sr rl h => by
  refine hw σ H _ ι ρ μ sr rl (PG.bind0 h fun src μ1 ι1 H1 p1 m1 sr1 h1 J hJ D hD => ?_)
  have hD0 : H D = none := by
    cases e : H D with
    | none => rfl
    | some u =>
      by_cases z : D ∈ ι
      · exact absurd hD (sr1.on D (p1.subset z))
      · exact absurd hD (m1.live z e)
  refine ⟨fun i m H' => ∃ (ι' : List Addr) (acc : List AV) (av : List V) (μ' : Store), HM ι1 H1 ι' H' ∧ SR X.K κ ι' μ' H' ∧ D ∉ ι' ∧ H' D = some (.lst av) ∧ RelL X.K κ ι' H' acc av ∧
    PG X.K κ W σ ι H (fun vs ι' H' => ∀ (a : Addr) (xs : List V), RelL X.K κ ι' H' vs xs → H' a = some (.lst xs) → a ∉ ι' → H a = none → Q (.ref a) H') (lcF g tt te src m i (wipeA ρ vs) acc μ'),
    ⟨FUEL, ι1, [], [], μ1, HM.fresh hD, sr1.new hD, sr1.notin hD, upd_same, .nil, h1⟩, ?_⟩
  rintro i m H' ⟨ι', acc, av, μ', hm, sr', hn, eD, ra, h'⟩
  cases m with
  | zero => exact False.elim h'
  | succ m =>
    have hj := hJ i ι' H' μ' hm.v sr'
    unfold lcF at h'
    cases e : src.at i μ' with
    | none => rw [e] at h'; exact False.elim h'
    | some o =>
      rw [e] at h' hj
      cases o with
      | none => exact .inl ⟨hj, h' ι' H' (p1.trans hm.pre) (m1.trans hm) sr' D av ra eD hn hD0⟩
      | some v =>
        simp only at h' hj
        cases eg : g v (wipeA ρ vs) with
        | none => rw [eg] at h'; exact False.elim h'
        | some ρ1 =>
          rw [eg] at h'
          simp only at h'
          refine .inr ⟨hj.1, fun H2 => ∃ (ι2 : List Addr) (acc2 : List AV) (av2 : List V) (μ2 : Store), HM ι1 H1 ι2 H2 ∧ SR X.K κ ι2 μ2 H2 ∧ D ∉ ι2 ∧ H2 D = some (.lst av2) ∧ RelL X.K κ ι2 H2 acc2 av2 ∧
            PG X.K κ W σ ι H (fun vs ι' H' => ∀ (a : Addr) (xs : List V), RelL X.K κ ι' H' vs xs → H' a = some (.lst xs) → a ∉ ι' → H a = none → Q (.ref a) H') (lcF g tt te src m (i + 1) (wipeA ρ vs) acc2 μ2), fun H2 z => ⟨m, Nat.lt_succ_self _, z⟩, fun x H2 hy => ?_⟩
          obtain ⟨m2, sr2, rx⟩ := hj.2 x H2 hy
          have rw2 : RelS X.K κ ι' H2 (wipeA ρ vs) (L2.wipe σ vs) := ((rl.mono p1 m1).mono hm.pre hm).wipe vs |>.mono (List.prefix_refl _) m2
          refine ⟨ι', v, wipeA ρ vs, ρ1, rw2, rx, eg, fun σ2 rl2 hwp => ⟨?_, ?_⟩⟩
          · have z := hwp vs hv
            rw [z]
            exact wipe_twice
          · refine ⟨ι', ρ1, μ', sr2, rl2, PG.nox (PG.bindF (m1.trans (hm.trans m2)) h' fun b μ3 ι3 H3 p3 m3 sr3 h3 => ?_)⟩
            have hm3 := (hm.trans m2).trans m3
            have eD2 : H2 D = some (.lst av) := m2.oth D _ hn eD
            have eD3 : H3 D = some (.lst av) := m3.oth D _ hn eD2
            have hn3 : D ∉ ι3 := fun z => by
              have := m3.new D z hn
              rw [eD2] at this; cases this
            cases b with
            | false =>
              refine iteF ⟨ι3, acc, av, μ3, hm3, sr3, hn3, eD3, (ra.mono (List.prefix_refl _) m2).mono p3 m3, ?_⟩
              simpa using h3
            | true =>
              refine iteT ⟨ι3, ρ1, μ3, sr3, rl2.mono p3 m3, PG.nox (PG.bindF (m1.trans hm3) h3 fun y μ4 ι4 H4 p4 m4 sr4 h4 yv ry => ?_)⟩
              have eD4 : H4 D = some (.lst av) := m4.oth D _ hn3 eD3
              have hn4 : D ∉ ι4 := fun z => by
                have := m4.new D z hn3
                rw [eD3] at this; cases this
              have hm4 := hm3.trans m4
              by_cases hz : acc.length < 16777216
              · rw [if_pos hz] at h4
                have ra4 := (((ra.mono (List.prefix_refl _) m2).mono p3 m3).mono p4 m4)
                have mu : Mut (H4 D) := by rw [eD4]; trivial
                have m5 : HM ι1 H1 ι4 (upd H4 D (.lst (av ++ [yv]))) := hm4.mine mu (.inl hD)
                have w5 : HW H4 (upd H4 D (.lst (av ++ [yv]))) := (HM.mine (HM.refl (ι := [D]) H4) mu (.inr (by simp))).w
                refine ⟨av, eD4, by rw [line16, ← ra4.length]; exact hz, ι4, acc ++ [y], av ++ [yv], μ4, m5, sr4.other w5 hn4 (by rw [eD4]; trivial), hn4, upd_same, (ra4.append (.cons ry .nil)).monoW (List.prefix_refl _) w5, h4⟩
              · rw [if_neg hz] at h4
                exact False.elim h4
theorem DN.lc (cl : Cl X k) (hi : DI κ X tg iter it) (ok : BlkOk X.N X.env.scope scope own) (hv : ∀ i ∈ is, i ∈ own.map (·.2))
    (hg : ∀ (s : Shared) (H : Hp) (C : Addr) (cl : List (Str × Addr)) (fp : List Addr), DG κ (X.blk s H scope (compEnvC scope cl C X.env) fp) tg is g) (ht : ∀ (s : Shared) (H : Hp) (C : Addr) (cl : List (Str × Addr)) (fp : List Addr), PTs (X.blk s H scope (compEnvC scope cl C X.env) fp) ifs (kT X.K κ W0 tt))
    (he : ∀ (s : Shared) (H : Hp) (C : Addr) (cl : List (Str × Addr)) (fp : List Addr), DE κ (X.blk s H scope (compEnvC scope cl C X.env) fp) elt te) (hs : ∀ x, foldedSetIterable iter X.env x = pure x := by intro _; rfl) :
    DN κ X (.ListComp elt [⟨tg, iter, ifs, 0⟩] scope pos) (aLc it (own.map (·.2)) g tt te) := DN.mk cl fun W tk => by
  obtain ⟨wi, p0, i0⟩ := hi W tk
  exact ⟨_, pe_lc cl.calm cl.nd p0 ok (fun s H C cl fp => (hg s H C cl fp).kan) ht (fun s H C cl fp => (he s H C cl fp).kan takes0) hs, im_lc hv i0⟩
theorem lc_all {K : PySem.W.Frag} {Y : Cx} : PTs Y [] (kT K κ W0 tTrue) := ⟨fun pins s σ H Q I hw => by
  obtain ⟨ι, ρ, μ, sr, rl, h⟩ := hw
  exact pts_nil.run pins s σ H Q I (h ι H (List.prefix_refl _) (HM.refl _) sr)⟩
theorem lc_if {Y : Cx} (h : DT κ Y c tt) : PTs Y [c] (kT Y.K κ W0 tt) := pts_one (h.kan takes0)
end
end
end Lr


namespace Lr
open PySem PySem.Spec L2
open PyProof.Rows hiding St


mutual
def bel (n : Nat) : AV → Bool
  | .tup xs => belL n xs
  | .lst xs => belL n xs
  | .dct kvs => belD n kvs
  | .loc m => decide (m < n)
  | _ => true
def belL (n : Nat) : List AV → Bool
  | [] => true
  | x :: xs => bel n x && belL n xs
def belD (n : Nat) : List (AV × AV) → Bool
  | [] => true
  | (x, y) :: xs => bel n x && bel n y && belD n xs
end
def belO (n : Nat) : AO → Bool
  | .lst xs => belL n xs
  | .dct kvs => kvs.all fun p => bel n p.2
  | .ins _ fs => fs.all fun p => bel n p.2
  | .exc _ p => match p with | none => true | some v => bel n v
  | .dead => true
def gcOk (μ μ' : Store) : Prop := ∀ (i : Nat) (o : AO), i < μ.length → μ'[i]? = some o → μ[i]? = some o ∨ belO μ.length o = true
open Classical in
noncomputable def gc (μ : Store) (r : Res AV) : Res AV := match r with
  | .ok v μ' => if bel μ.length v = true ∧ gcOk μ μ' then .ok v (μ'.take μ.length) else .ok v μ'
  | r => r
def startA (n : Nat) (as : List AV) : Loc := as.map some ++ List.replicate (n - as.length) none
def bodyR (n : Nat) (b : AS) : Fn := fun as μ => match b (startA n as) μ with
  | .nx _ μ' => .ok .non μ'
  | .rt v μ' => .ok v μ'
  | .ex c p _ μ' => .ex c p μ'
  | _ => .bad
noncomputable def fnR (n m : Nat) (b : AS) : Fn := fun as μ => if as.length = m then gc μ (bodyR n b as μ) else .bad
section
variable {K : PySem.W.Frag} {κ : Kap} {ι : List Addr} {H : Hp} {n : Nat}
mutual
theorem Rel.take (n : Nat) : ∀ {v : AV} {x : V}, Rel K κ ι H v x → bel n v = true → Rel K κ (ι.take n) H v x
  | _, _, .non, _ => .non
  | _, _, .bl b, _ => .bl b
  | _, _, .int i, _ => .int i
  | _, _, .str z, _ => .str z
  | _, _, .tup h r, e => .tup h (RelL.takeN n r (by simpa [bel] using e))
  | _, _, .lst h r, e => .lst h (RelL.takeN n r (by simpa [bel] using e))
  | _, _, .dct h ho hd hn r, e => .dct h ho hd hn (RelD.takeN n r (by simpa [bel] using e))
  | _, _, .loc (n := m) h, e => .loc (by
      have hm : m < n := by simpa [bel] using e
      rw [List.getElem?_take_of_lt hm]
      exact h)
  | _, _, .obj k h, _ => .obj k h
  | _, _, .scr h, _ => .scr h
  | _, _, .ty m, _ => .ty m
theorem RelL.takeN (n : Nat) : ∀ {v : List AV} {x : List V}, RelL K κ ι H v x → belL n v = true → RelL K κ (ι.take n) H v x
  | _, _, .nil, _ => .nil
  | _, _, .cons h r, e => by
    simp only [belL, Bool.and_eq_true] at e
    exact .cons (Rel.take n h e.1) (RelL.takeN n r e.2)
theorem RelD.takeN (n : Nat) : ∀ {v : List (AV × AV)} {x : List DictEntry}, RelD K κ ι H v x → belD n v = true → RelD K κ (ι.take n) H v x
  | _, _, .nil, _ => .nil
  | _, _, .cons h hv g gv r, e => by
    simp only [belD, Bool.and_eq_true] at e
    exact .cons (Rel.take n h e.1.1) hv (Rel.take n g e.1.2) gv (RelD.takeN n r e.2)
end
mutual
theorem Rel.bel : ∀ {v : AV} {x : V}, Rel K κ ι H v x → bel ι.length v = true
  | _, _, .non => rfl
  | _, _, .bl b => rfl
  | _, _, .int i => rfl
  | _, _, .str z => rfl
  | _, _, .tup h r => by simpa [Lr.bel] using RelL.bel r
  | _, _, .lst h r => by simpa [Lr.bel] using RelL.bel r
  | _, _, .dct h ho hd hn r => by simpa [Lr.bel] using RelD.bel r
  | _, _, .loc h => by simpa [Lr.bel] using (List.getElem?_eq_some_iff.mp h).1
  | _, _, .obj k _ => rfl
  | _, _, .scr h => rfl
  | _, _, .ty m => rfl
theorem RelL.bel : ∀ {v : List AV} {x : List V}, RelL K κ ι H v x → belL ι.length v = true
  | _, _, .nil => rfl
  | _, _, .cons h r => by simp only [belL, Bool.and_eq_true]; exact ⟨Rel.bel h, RelL.bel r⟩
theorem RelD.bel : ∀ {v : List (AV × AV)} {x : List DictEntry}, RelD K κ ι H v x → belD ι.length v = true
  | _, _, .nil => rfl
  | _, _, .cons h hv g gv r => by simp only [belD, Bool.and_eq_true]; exact ⟨⟨Rel.bel h, Rel.bel g⟩, RelD.bel r⟩
end
theorem RelF.bel : ∀ {v : List (Str × AV)} {x : List (Str × V)}, RelF K κ ι H v x → (v.all fun p => Lr.bel ι.length p.2) = true
  | _, _, .nil => rfl
  | _, _, .cons h r => by rw [List.all_cons, h.2.bel, RelF.bel r]; rfl
theorem RelF.takeN : ∀ {v : List (Str × AV)} {x : List (Str × V)}, RelF K κ ι H v x → (v.all fun p => Lr.bel n p.2) = true → RelF K κ (ι.take n) H v x
  | _, _, .nil, _ => .nil
  | _, _, .cons h r, e => by
    rw [List.all_cons, Bool.and_eq_true] at e
    exact .cons ⟨h.1, h.2.take n e.1⟩ (RelF.takeN r e.2)
theorem RelK.bel : ∀ {v : List (Key × AV)} {x : List (Key × V)}, RelK K κ ι H v x → (v.all fun p => Lr.bel ι.length p.2) = true
  | _, _, .nil => rfl
  | _, _, .cons h r => by rw [List.all_cons, h.2.bel, RelK.bel r]; rfl
theorem RelK.takeN : ∀ {v : List (Key × AV)} {x : List (Key × V)}, RelK K κ ι H v x → (v.all fun p => Lr.bel n p.2) = true → RelK K κ (ι.take n) H v x
  | _, _, .nil, _ => .nil
  | _, _, .cons h r, e => by
    rw [List.all_cons, Bool.and_eq_true] at e
    exact .cons ⟨h.1, h.2.take n e.1⟩ (RelK.takeN r e.2)
theorem ObjR.bel {a : Addr} {o : AO} (h : ObjR K κ ι H a o) : belO ι.length o = true := by
  cases o with
  | lst xs => obtain ⟨vs, _, r⟩ := h; exact r.bel
  | dct kvs => obtain ⟨vs, _, r⟩ := h; exact RelK.bel r
  | ins c fs => obtain ⟨dx, vs, _, r⟩ := h; exact RelF.bel r
  | exc c p =>
    obtain ⟨oa, _, _, _, r, _⟩ := h
    cases p with
    | none => rfl
    | some v => obtain ⟨_, _, _, _, _, _, r⟩ := r; exact r.bel
  | dead => rfl
theorem ObjR.take {a : Addr} {o : AO} (h : ObjR K κ ι H a o) (e : belO n o = true) : ObjR K κ (ι.take n) H a o := by
  cases o with
  | lst xs => obtain ⟨vs, h1, r⟩ := h; exact ⟨vs, h1, r.takeN n e⟩
  | dct kvs => obtain ⟨vs, h1, r⟩ := h; exact ⟨vs, h1, RelK.takeN r e⟩
  | ins c fs => obtain ⟨dx, vs, h1, r⟩ := h; exact ⟨dx, vs, h1, RelF.takeN r e⟩
  | exc c p =>
    obtain ⟨oa, h1, h2, h3, r, h5⟩ := h
    refine ⟨oa, h1, h2, h3, ?_, h5⟩
    cases p with
    | none => exact r
    | some v => obtain ⟨d, od, x, q1, q2, q3, r⟩ := r; exact ⟨d, od, x, q1, q2, q3, r.take n e⟩
  | dead => trivial
theorem gc_ok {W : WX} {σ : St} {μ : Store} {Q : VK} {r : Res AV} (sr : SR K κ ι μ H) (h : PG K κ W σ ι H (CV K κ Q) (gc μ r)) : PG K κ W σ ι H (CV K κ Q) r := by
  cases r with
  | ex c p μ' => exact h
  | bad => exact h
  | ok v μ' =>
    unfold gc at h
    simp only at h
    split at h
    · rename_i hc
      obtain ⟨hb, hg⟩ := hc
      intro ι' H' p m sr' x rx
      have et : ι'.take μ.length = ι := by
        obtain ⟨t, rfl⟩ := p
        rw [← sr.len, List.take_left]
      have rx' : Rel K κ ι H' v x := by
        have z := rx.take μ.length hb
        rw [et] at z
        exact z
      refine h ι H' (List.prefix_refl _) ⟨List.prefix_refl _, m.tup, m.frz, m.oth', fun _ h n => absurd h n, m.tb⟩ ⟨?_, sr.nd, fun a ha => sr'.on a (p.subset ha), fun a ha => sr'.ne a (p.subset ha), sr'.tabs, fun i o a h1 h2 => ?_⟩ x rx'
      · have : μ.length ≤ μ'.length := by
          rw [← sr.len, ← sr'.len]
          exact p.length_le
        rw [List.length_take, sr.len]
        omega
      · have hi : i < μ.length := by
          rw [← sr.len]
          exact (List.getElem?_eq_some_iff.mp h2).1
        rw [List.getElem?_take_of_lt hi] at h1
        have z := sr'.obj i o a h1 (get_prefix p h2)
        have hb' : belO μ.length o = true := by
          rcases hg i o hi h1 with q | q
          · rw [← sr.len]
            exact (sr.obj i o a q h2).bel
          · exact q
        have z2 := z.take hb'
        rw [et] at z2
        exact z2
    · exact h
end


structure FnD (κ : Kap) (P : Program) (w : World) (K : PySem.W.Frag) (mg : Str → Option Value) (base : Heap) (k : Nat) (f : Addr) (fd : FuncData) (ps : List Str) (r : Fn) : Prop where
  len : ∀ (as : List AV) (μ : Store), as.length ≠ ps.length → r as μ = .bad
  run : ∀ (A : Around) (outer : List Env) (s : Shared) (H : Hp) (args : Args) (us : List Value) (vs : List V) (as : List AV) (ι : List Addr) (μ : Store) (Q : VK) (E : XK), Room k A → A.guards = some [] → Env0 P w K mg base A outer s H → BindsTo s fd args (ps.zip us) → Vals vs us →
    RelL K κ ι H as vs → vs.length = ps.length → SR K κ ι μ H → PG K κ (fun cls d _ H' => E cls d H') [] ι H (CV K κ Q) (r as μ) → codeAny (model P w) A (.call (.ref f) args) (CR (L2.CX P w) outer P w H s Q E) s
theorem FnD.mono {κ : Kap} {P : Program} {w : World} {K : PySem.W.Frag} {mg : Str → Option Value} {base : Heap} {j k : Nat} {f : Addr} {fd : FuncData} {ps : List Str} {r : Fn} (F : FnD κ P w K mg base j f fd ps r) (h : j ≤ k) : FnD κ P w K mg base k f fd ps r :=
  ⟨F.len, fun A outer s H args us vs as ι μ Q E hr => F.run A outer s H args us vs as ι μ Q E (hr.mono h)⟩
theorem FnD.bad {κ : Kap} {P : Program} {w : World} {K : PySem.W.Frag} {mg : Str → Option Value} {base : Heap} {k : Nat} {f : Addr} {fd : FuncData} {ps : List Str} : FnD κ P w K mg base k f fd ps (fun _ _ => .bad) :=
  ⟨fun _ _ _ => rfl, fun A outer s H args us vs as ι μ Q E _ _ _ _ _ _ _ _ h => False.elim h⟩
theorem start_rel {K : PySem.W.Frag} {κ : Kap} {ι : List Addr} {H : Hp} {N : List Str} {as : List AV} {vs : List V} (r : RelL K κ ι H as vs) : RelS K κ ι H (startA N.length as) (L2.start N vs) := by
  refine ⟨by simp [startA, L2.start, r.length], fun i v e => ?_⟩
  unfold startA at e
  unfold L2.start
  by_cases hi : i < as.length
  · rw [List.getElem?_append_left (by simpa using hi), List.getElem?_map] at e
    cases q : as[i]? with
    | none => rw [q] at e; cases e
    | some a =>
      rw [q] at e
      cases e
      obtain ⟨x, ex, rx⟩ := r.get q
      refine ⟨x, ?_, rx⟩
      rw [List.getElem?_append_left (by rw [List.length_map, ← r.length]; exact hi), List.getElem?_map, ex]
      rfl
  · rw [List.getElem?_append_right (by simpa using hi), List.getElem?_replicate] at e
    split at e <;> cases e
theorem guards_deeper {A : Around} {env : Env} (h : A.guards = some []) : (A.deeper env).guards = some [] := h

theorem FnD.of {κ : Kap} {P : Program} {w : World} {K : PySem.W.Frag} {mg : Str → Option Value} {base : Heap} {k : Nat} {x qual : Str} {st : Stmt} {f : Addr} {fd : FuncData} {N ps : List Str} {b : AS} (F : Fun K x qual st f fd) (S : FnScope N ps (defScope st)) (hsm : ∃ o, base.get? sysModules = some o)
    (hb : ∀ (cdv : Value) (A : Around) (outer : List Env) (s : Shared) (H : Hp) (E : XK), Cl (cxOf (L2.CX P w) P w K mg base N qual (defScope st) f cdv A outer s H E) k → DSs κ (cxOf (L2.CX P w) P w K mg base N qual (defScope st) f cdv A outer s H E) (defBody st) b) :
    FnD κ P w K mg base (k + 1) f fd ps (fnR N.length ps.length b) := by
  obtain ⟨oc, od, kV, doc, pm, an, cdv, ct, osl, rfl, lk, hcd⟩ := F.ex
  refine ⟨fun as μ hn => if_neg hn, fun A outer s H args us vs as ι μ Q E hr hgd e0 hbd r ra hl sr h => ?_⟩
  have KX : K.In s.heap := e0.mod.kin.keeps fun b o e => (e0.bs b o e).1
  have lim : s.heap.NoLimit := e0.mod.nolimit.keeps fun b o e => (e0.bs b o e).1
  have par : ∀ y ∈ ps.zip us, (defScope st).names.lookup y.1 = some .local ∨ ((defScope st).names.lookup y.1 = some .cell ∧ ((cellsFrom (s.heap.objs.size + 1) (defScope st).names []).lookup y.1).isSome = true) := by
    rintro ⟨n, v⟩ hy
    exact (S.par n (List.of_mem_zip hy).1).imp id fun q => ⟨q, PySem.W.cellsFrom_some _ _ _ (.inl q)⟩
  refine codeAny_call_function hr.depth (KX _ _ lk) rfl S.co S.gen rfl (PySem.W.codeRec_of KX hcd) (hbd _ _ _ _ ?_)
  refine wpAny_newFunctionEnv_cells S.kind par fun env he s1 x => ?_
  subst he
  refine ⟨lim.keeps x.toInCall.keep, codeAny_func ?_⟩
  have I := inv_start (CX := L2.CX P w) (E := E) (f := f) (qual := qual) (cd := cdv) S hr.hd e0 hl r x
  have cl : Cl (cxOf (L2.CX P w) P w K mg base N qual (defScope st) f cdv A outer s H E) k := ⟨rfl, S.nd, hr.deeper _, guards_deeper hgd, hsm⟩
  obtain ⟨t, pt, it⟩ := hb cdv A outer s H E cl _ (takes_of rfl rfl rfl rfl)
  have hlen : as.length = ps.length := ra.length.trans hl
  have go : t { nx := fun _ H' => Q .non H', rt := Q } (L2.start N vs) H := by
    refine it _ _ H ι (startA N.length as) μ sr (start_rel ra) ?_
    have h2 := gc_ok (r := bodyR N.length b as μ) sr (by simpa only [fnR, if_pos hlen] using h)
    unfold bodyR at h2
    cases eb : b (startA N.length as) μ with
    | nx ρ' μ' => rw [eb] at h2; exact fun ι' H' σ' p m sr' _ => h2 ι' H' p m sr' .non .non
    | rt v μ' => rw [eb] at h2; exact fun ι' H' x p m sr' rx => h2 ι' H' p m sr' x rx
    | ex c p ρ' μ' => rw [eb] at h2; exact fun ι' H' σ' d p m sr' _ e => h2 ι' H' d p m sr' e
    | bk ρ' μ' => rw [eb] at h2; exact False.elim h2
    | ct ρ' μ' => rw [eb] at h2; exact False.elim h2
    | bad => rw [eb] at h2; exact False.elim h2
  refine wpAny_mono (pt.run [] s1 (L2.start N vs) H _ I go) (fun fl s' hs => ?_) fun e s' hs => hs
  cases fl with
  | next =>
    obtain ⟨σ', H', J, q⟩ := hs
    exact ⟨V.non, H', J.os, J.bare, J.base, J.hok, rfl, q⟩
  | ret u =>
    obtain ⟨v, σ', H', J, rv, q⟩ := hs
    exact ⟨v, H', J.os, J.bare, J.base, J.hok, rv, q⟩
  | brk =>
    obtain ⟨_, _, _, q⟩ := hs
    exact False.elim q
  | cont =>
    obtain ⟨_, _, _, q⟩ := hs
    exact False.elim q


def eCall (r : Fn) (a : AA) : AE := fun ρ μ => (a ρ μ).bind fun as μ1 => r as μ1
section
variable {κ : Kap} {X : Cx} {e : Expr} {es : List Expr} {rs : AA} {k j : Nat} {f : Addr} {fd : FuncData} {ps : List Str} {r : Fn} {x : Str} {p pos : Pos}
theorem DE.call (cl : Cl X k) (F : FnD κ X.prog X.w X.K X.mg X.base k f fd ps r) (hg : Gl X x) (hm : X.mg x = some (.ref f)) (hk : PySem.W.keepIn X.K (.ref f) = true) (hb : Binds X.K fd ps [])
    (ha : DA κ X (e :: es) rs) (hdb : (x == ("__debug__" : Str)) = false := by decide) (he : starEach (e :: es) X.env = (false, eval e X.env) :: starEach es X.env := by rfl) (hpl : (backTo pos (starEach es X.env)).any (·.1) = false := by rfl) :
    DE κ X (.Call (.Name x p) (e :: es) [] pos) (eCall r rs) := fun W tk => by
  obtain ⟨t, q, i⟩ := ha W tk
  refine ⟨fun σ H Q => t σ H fun vs H1 => ∃ (ι : List Addr) (μ : Store) (as : List AV), SR X.K κ ι μ H1 ∧ RelL X.K κ ι H1 as vs ∧ PG X.K κ W σ ι H1 (CV X.K κ Q) (r as μ), ⟨fun pins s σ H Q I h => ?_⟩, fun σ H Q ι ρ μ sr rl h => ?_⟩
  · refine wpAny_Call_Name_kw (ld_glob I hg hm ?_ hdb)
    refine PySem.W.callWith_K (h₀ := X.base) I.ok.mod.kin hk (thn (q.run pos pins s σ H _ I h) fun us s1 ⟨vs, H1, I1, rv, ι, μ, as, sr, ra, h1⟩ => ⟨I1.kIn, ?_⟩) he hpl
    have hl1 : as.length = ps.length := by
      by_cases z : as.length = ps.length
      · exact z
      · rw [F.len as μ z] at h1; exact False.elim h1
    have hl2 : (us ++ ([] : List Value)).length = ps.length := by rw [List.append_nil, ← rv.length, ← ra.length]; exact hl1
    have hbd := hb s1 us I1.kIn hl2
    rw [List.append_nil] at hbd
    refine wpAny_call (codeAny_mono (F.run X.A X.stack s1 H1 ⟨us, []⟩ us vs as ι μ Q (fun cls d H' => W cls d σ H') cl.room cl.gd I1.env0 hbd rv ra (by rw [← ra.length]; exact hl1) sr (by
      cases er : r as μ with
      | ok v μ2 => rw [er] at h1; exact h1
      | ex c v μ2 => rw [er] at h1; exact h1
      | bad => rw [er] at h1; exact h1)) fun rr s' hq => ?_)
    cases rr with
    | error e => exact tk e s' (XE.of_call I1 (fun _ _ _ z => z) hq)
    | ok fl =>
      cases fl with
      | ret u => exact I1.after hq
      | next => exact False.elim hq
      | brk => exact False.elim hq
      | cont => exact False.elim hq
  · exact i σ H _ ι ρ μ sr rl (PG.bind h fun as μ1 ι1 H1 p1 m1 sr1 h1 vs rv => ⟨ι1, μ1, as, sr1, rv, h1⟩)
end
end Lr


namespace Lr
open PySem PySem.Spec L2
open PyProof.Rows hiding St

section
variable {κ : Kap} {X : Cx} {a b c e o : Expr} {ra rb rc r : AE} {pos p2 pos' : Pos} {g g' : G2} {k : Nat} {es : List Expr} {rs : AA}

def stL (μ : Store) : AV → Option (Nat × List AV)
  | .loc n => match μ[n]? with
    | some (.lst xs) => some (n, xs)
    | _ => none
  | _ => none
theorem stL_rel {K : PySem.W.Frag} {ι : List Addr} {H : Hp} {μ : Store} (sr : SR K κ ι μ H) {a : AV} {x : V} {n : Nat} {xs : List AV} (r : Rel K κ ι H a x) (e : stL μ a = some (n, xs)) : ∃ p vs, x = .ref p ∧ ι[n]? = some p ∧ H p = some (.lst vs) ∧ RelL K κ ι H xs vs := by
  cases r <;> first | (cases e; done) | skip
  rename_i m p h
  simp only [stL] at e
  split at e
  · rename_i ys q
    cases e
    obtain ⟨vs, e1, r1⟩ := sr.obj _ _ p q h
    exact ⟨p, vs, rfl, h, e1, r1⟩
  · cases e

theorem ok_lset {K : PySem.W.Frag} {W : WX} {σ : St} {ι : List Addr} {H : Hp} {Q : VK} {v : AV} {x : V} {μ : Store} {n : Nat} {p : Addr} {vs ws : List V} {ys : List AV} (sr : SR K κ ι μ H) (hp : ι[n]? = some p) (e : H p = some (.lst vs)) (rl : RelL K κ ι H ys ws) (rv : Rel K κ ι H v x)
    (h : PG K κ W σ ι H (CV K κ Q) (.ok v (μ.set n (.lst ys)))) : Q x (upd H p (.lst ws)) := by
  have m : HM ι H ι (upd H p (.lst ws)) := HM.wr (by rw [e]; trivial) (List.mem_of_getElem? hp)
  exact h ι _ (List.prefix_refl _) m (sr.write hp (by rw [e]; trivial) ⟨ws, upd_same, rl.mono (List.prefix_refl _) m⟩) x (rv.mono (List.prefix_refl _) m)
theorem lst_ty {K : PySem.W.Frag} {ι ι' : List Addr} {H H' : Hp} {x : V} {vs : List V} {p : Addr} (e : x = .ref p) (h : SqL K H p vs) : tyV K "list" x H := by
  subst e
  exact .inl ⟨rfl, vs, h⟩

def isLs (μ : Store) (v : AV) : Bool := (lsOf μ v).isSome
def eApp2 (o a : AE) : AE := fun ρ μ => (o ρ μ).bind fun l μ1 => if isLs μ1 l then (a ρ μ1).bind fun v μ2 => match stL μ2 l with
  | some (n, xs) => if xs.length < 16777216 then .ok .non (μ2.set n (.lst (xs ++ [v]))) else .bad
  | none => .bad else .bad
theorem DE.app {apos cpos : Pos} (ho : DE κ X o ra) (ha : DE κ X a rb)
    (hbase : attributeBase o "append" X.env (eval o X.env) = eval o X.env := by rfl)
    (hfew : ((backTo cpos (starEach [a] X.env)).all (fun x => !x.1) && (backToKw cpos (keywordEach [] X.env)).all (fun x => x.1.isSome) && decide ([a].length + ([] : List Keyword).length + (if ([] : List Keyword).isEmpty then 0 else 1) < 30)) = true := by rfl)
    (hline : (apos.endLine == cpos.line) = true := by rfl) (hs : starEach [a] X.env = (false, eval a X.env) :: starEach [] X.env := by rfl) (hplain : (backTo cpos (starEach [] X.env)).any (·.1) = false := by rfl) :
    DE κ X (.Call (.Attribute o "append" apos) [a] [] cpos) (eApp2 ra rb) := fun W tk => by
  obtain ⟨t, p, i⟩ := ho W tk
  obtain ⟨u, q, j⟩ := ha W tk
  refine ⟨_, pe_bm PySem.F.plainAttrs_list PySem.F.slot_list_append PySem.F.type_list_append mt_append p (pa_cons q pa_nil hs) hbase hfew hline hs hplain, fun σ H Q ι ρ μ sr rl h => ?_⟩
  refine i σ H _ ι ρ μ sr rl (PG.bind h fun l μ1 ι1 H1 p1 m1 sr1 h1 lv rlv => ?_)
  by_cases hl : isLs μ1 l = true
  · rw [if_pos hl] at h1
    obtain ⟨xs0, e0⟩ := Option.isSome_iff_exists.mp hl
    obtain ⟨p0, vs0, ex, h0, _⟩ := ls_rel sr1 rlv e0
    refine ⟨lst_ty (ι := ι1) (ι' := ι1) (H' := H1) ex h0, ?_⟩
    refine j σ H1 _ ι1 ρ μ1 sr1 (rl.mono p1 m1) (PG.bind h1 fun v μ2 ι2 H2 p2 m2 sr2 h2 vv rv => ?_)
    show rAppend _ [vv] H2 Q
    split at h2
    · rename_i n xs e1
      by_cases hz : xs.length < 16777216
      · rw [if_pos hz] at h2
        obtain ⟨q1, vs, rfl, hq, e2, r2⟩ := stL_rel sr2 (rlv.mono p2 m2) e1
        exact ⟨q1, vs, vv, rfl, rfl, e2, by rw [line16, ← r2.length]; exact hz, ok_lset sr2 hq e2 (r2.append (.cons rv .nil)) .non h2⟩
      · rw [if_neg hz] at h2
        exact False.elim h2
    · exact False.elim h2
  · rw [if_neg hl] at h1
    exact False.elim h1

def sSub (o i r : AE) : AS := fun ρ μ => (r ρ μ).out ρ fun v μ1 => (o ρ μ1).out ρ fun l μ2 => (i ρ μ2).out ρ fun j μ3 => match stL μ3 l, j with
  | some (n, xs), .int k => match ixN xs.length k with
    | some m => .nx ρ (μ3.set n (.lst (xs.set m v)))
    | none => .bad
  | _, _ => .bad
theorem DS.sub {i : Expr} (ho : DE κ X o ra) (hi : DE κ X i rb) (hv : DE κ X a rc) (hs : swapsWithSole [.Subscript o i pos'] a pos.line X.env = pure false := by rfl) (hw : swappedStores [.Subscript o i pos'] a X.env = pure none := by rfl)
    (h1 : (assignEach [.Subscript o i pos'] X.env).map (·.2) = [assign (.Subscript o i pos') X.env] := by rfl)
    (hx : ∀ v, assign (.Subscript o i pos') X.env v = (do
      let ov ← holding [v] (eval o X.env)
      let iv ← holding [v, ov] (eval i X.env)
      standAt pos'
      holding [v, ov, iv] (setItem ov iv v)
      release [v, ov, iv] []) := by intro _; rfl) : DS κ X (.Assign [.Subscript o i pos'] a pos) (sSub ra rb rc) := fun W tk => by
  obtain ⟨t1, p1, i1⟩ := ho W tk
  obtain ⟨t2, p2, i2⟩ := hi W tk
  obtain ⟨t3, p3, i3⟩ := hv W tk
  refine ⟨_, ps_asg p3 (pg_sub p1 p2 set_list hx) hs hw h1, fun D σ H ι ρ μ sr rl h => ?_⟩
  refine i3 σ H _ ι ρ μ sr rl (PO'.bind rl h fun v μ1 ι1 H1 q1 m1 sr1 h1 vv rv => ?_)
  refine i1 σ H1 _ ι1 ρ μ1 sr1 (rl.mono q1 m1) (PO'.bind (rl.mono q1 m1) h1 fun l μ2 ι2 H2 q2 m2 sr2 h2 lv rlv => ?_)
  have rl2 := (rl.mono q1 m1).mono q2 m2
  refine i2 σ H2 _ ι2 ρ μ2 sr2 rl2 (PO'.bind rl2 h2 fun j μ3 ι3 H3 q3 m3 sr3 h3 jv rj => ?_)
  split at h3
  · rename_i n xs kk e1
    cases rj
    split at h3
    · rename_i m em
      obtain ⟨p0, vs, rfl, hq, e2, r2⟩ := stL_rel sr3 (rlv.mono q3 m3) e1
      refine ⟨p0, vs, kk, m, rfl, rfl, e2, by rw [← r2.length]; exact em, ?_⟩
      have mm : HM ι3 H3 ι3 (upd H3 p0 (.lst (vs.set m vv))) := HM.wr (by rw [e2]; trivial) (List.mem_of_getElem? hq)
      have rv3 := (rv.mono q2 m2).mono q3 m3
      exact h3 ι3 _ σ (List.prefix_refl _) mm (sr3.write hq (by rw [e2]; trivial) ⟨_, upd_same, (RelL.set rv3 m r2).mono (List.prefix_refl _) mm⟩) ((rl2.mono q3 m3).mono (List.prefix_refl _) mm)
    · exact False.elim h3
  · exact False.elim h3

theorem sq_at {pins : List (Addr × Obj)} {σ : St} {H : Hp} {s : Shared} {p : Addr} {vs : List V} {K : PySem.W.Frag} (I : Inv X pins σ H s) (h : Rd H p (.lst vs)) : ∃ (its : List Value) (n : Nat), Vals vs its ∧ s.heap.get? p = some { cls := .type "list", data := .seq its.toArray n } ∧ vs.length ≤ sizeLine := by
  obtain ⟨z, its, n, r, e⟩ := h.ok I.hok
  exact ⟨its, n, r, e, z⟩
theorem ls_rd {K : PySem.W.Frag} {ι : List Addr} {H : Hp} {μ : Store} (sr : SR K κ ι μ H) {a : AV} {x : V} {xs : List AV} (r : Rel K κ ι H a x) (e : lsOf μ a = some xs) : ∃ p vs, x = .ref p ∧ Rd H p (.lst vs) ∧ RelL K κ ι H xs vs := by
  cases r with
  | lst h r => cases e; obtain ⟨o, h, _⟩ := h; exact ⟨_, _, rfl, .inr ⟨o, h⟩, r⟩
  | loc h =>
    rename_i n p
    simp only [lsOf] at e
    cases q : μ[n]? with
    | none => rw [q] at e; cases e
    | some o =>
      rw [q] at e
      cases o <;> first | (cases e; done) | skip
      cases e
      obtain ⟨vs, e1, r1⟩ := sr.obj n _ p q h
      exact ⟨p, vs, rfl, .inl e1, r1⟩
  | _ => cases e
def aCat (a b : AE) : AA := fun ρ μ => (a ρ μ).bind fun x μ1 => (b ρ μ1).bind fun y μ2 => match lsOf μ2 x, lsOf μ2 y with
  | some xs, some ys => if xs.length + ys.length ≤ 16777216 then .ok (xs ++ ys) μ2 else .bad
  | _, _ => .bad
theorem op_catR : OpR X (binaryOp .Add) (fun x y H Q => ∃ l b xs zs, x = .ref l ∧ y = .ref b ∧ Rd H l (.lst xs) ∧ Rd H b (.lst zs) ∧ xs.length + zs.length ≤ sizeLine ∧ ∀ p, H p = none → Q (.ref p) (upd H p (.lst (xs ++ zs)))) := by
  intro pins s σ H x y v u Q I rx ry hh
  obtain ⟨l, b, xs, zs, rfl, rfl, hl, hb, hz, q⟩ := hh
  cases rx
  cases ry
  obtain ⟨its, n, r, e, z1⟩ := sq_at (K := X.K) I hl
  obtain ⟨its2, n2, r2, e2, z2⟩ := sq_at (K := X.K) I hb
  have l1 := r.length
  have l2 := r2.length
  refine PySem.P.add_list e e2 ?_ (by rw [List.size_toArray, List.size_toArray]; omega)
  rw [show its.toArray ++ its2.toArray = (its ++ its2).toArray by simp]
  have hn := I.hok.fresh (Nat.le_refl s.heap.objs.size)
  refine ⟨.ref s.heap.objs.size, _, I.laid (t' := s.toks) (o := .lst (xs ++ zs)) (fun b o q => Heap.get?_push_of_some _ q) (Nat.le_refl _) ?_, rfl, q _ hn⟩
  exact ⟨by rw [List.length_append]; exact hz, _, 0, r.append r2, Heap.get?_push_size _ rfl⟩
theorem DN.cat (cl : Cl X k) (ha : DE κ X a ra) (hb : DE κ X b rb) : DN κ X (.BinOp a .Add b pos) (aCat ra rb) := DN.mk cl fun W tk => by
  obtain ⟨t1, p1, i1⟩ := ha W tk
  obtain ⟨t2, p2, i2⟩ := hb W tk
  refine ⟨_, pe_op op_catR p1 p2, fun σ H Q ι ρ μ sr rl h => ?_⟩
  refine i1 σ H _ ι ρ μ sr rl (PG.bind0 h fun x μ1 ι1 H1 p1 m1 sr1 h1 xv rx => ?_)
  refine i2 σ H1 _ ι1 ρ μ1 sr1 (rl.mono p1 m1) (PG.bindF m1 h1 fun y μ2 ι2 H2 p2 m2 sr2 h2 yv ry => ?_)
  split at h2
  · rename_i xs ys e1 e2
    by_cases hz : xs.length + ys.length ≤ 16777216
    · rw [if_pos hz] at h2
      obtain ⟨q1, vs1, rfl, d1, r1⟩ := ls_rd sr2 (rx.mono p2 m2) e1
      obtain ⟨q2, vs2, rfl, d2, r2⟩ := ls_rd sr2 ry e2
      exact ⟨q1, q2, vs1, vs2, rfl, rfl, d1, d2, by rw [line16, ← r1.length, ← r2.length]; exact hz, fun p hn => okNew sr sr2 (m1.trans m2) h2 (r1.append r2) hn⟩
    · rw [if_neg hz] at h2
      exact False.elim h2
  · exact False.elim h2
theorem ext_tup (l : Addr) (items : Array Value) (n : Nat) (b : Addr) (items2 : Array Value) (n2 : Nat) (dd : Option Addr) (sl : Array (Option Value)) (hs0 : ¬(!items.isEmpty && Builtin.List.listTooLong (items.size + items2.size)) = true) (hs1 : items.size ≤ sizeLine) (hs2 : items.size + items2.size ≤ sizeLine + 1 := by seq_fits) :
    Meets (Builtin.«list.extend» ⟨[.ref l, .ref b], []⟩) (fun _ R s => s.heap.get? l = some { cls := .type "list", dict := none, data := .seq items n, slots := #[] } ∧ s.heap.get? b = some { cls := .type "tuple", dict := dd, data := .seq items2 n2, slots := sl } ∧ R (.ok (.ret Value.none)) { s with heap := s.heap.update l (Obj.mapSeq fun x => x ++ items2), toks := s.toks }) :=
  .of_wp fun prog w A R s h => by
    obtain ⟨hp, g, d, tk, os⟩ := s
    obtain ⟨hl, hb, h⟩ := h
    have f1 := AutoSeq1.idx_int
    have f2 := AutoSeq1.sub_tuple_tuple
    have f3 := AutoSeq1.sub_list_list
    have f4 := AutoSeq1.sub_tuple_list
    have f5 := AutoSeq1.sub_list_tuple
    have hz' : (items ++ items2).size ≤ sizeLine + 1 := by rw [Array.size_append]; exact hs2
    wp_walk using (wpAny_updateSeq hl rfl (hz := hs1) (_hz' := hz')), AutoSeq1.wpAny_loadPart' hl, AutoSeq1.wpAny_loadPart' hb
    exact ⟨_, rfl, h⟩

def rExtA (K : PySem.W.Frag) : V → List V → Hp → VK → Prop := fun x vs H Q => ∃ l b xs zs, x = .ref l ∧ vs = [.ref b] ∧ H l = some (.lst xs) ∧ (Rd H b (.lst zs) ∨ SqT K H b zs) ∧ xs.length + zs.length ≤ sizeLine ∧ Q .non (upd H l (.lst (xs ++ zs)))
theorem mt_extA : MtM X "list.extend" (rExtA X.K) := by
  intro pins s σ H x vs v us Q I rx rv h
  obtain ⟨l, b, xs, zs, rfl, rfl, hH, hB, hz, q⟩ := h
  cases rx
  obtain ⟨u, rfl, ru⟩ := rv.one
  cases ru
  obtain ⟨z, its, n, r, hl, e⟩ := I.lstM hH
  have done : ∀ {its2 : List Value}, Vals zs its2 → ∃ y H', Inv X pins σ H' { s with heap := s.heap.update l (Obj.mapSeq fun x => x ++ its2.toArray), toks := s.toks } ∧ RelV y Value.none ∧ Q y H' := fun {its2} r2 => by
    refine ⟨.non, _, I.lset (its' := its ++ its2) hH e (by simp) (r.append r2) ?_, rfl, q⟩
    rw [List.length_append]
    omega
  have long : ∀ m : Nat, its.toArray.size + m ≤ sizeLine → ¬ (!its.toArray.isEmpty && Builtin.List.listTooLong (its.toArray.size + m)) = true := fun m hm => by
    rw [notLongL hm, Bool.and_false]
    exact Bool.false_ne_true
  rcases hB with hB | hB
  · obtain ⟨its2, n2, r2, e2, z2⟩ := sq_at (K := X.K) I hB
    have l2 := r2.length
    have hsz : its.toArray.size + its2.toArray.size ≤ sizeLine := by rw [List.size_toArray, List.size_toArray]; omega
    exact call_meets PySem.F.slot_list_extend ⟨_, e, rfl⟩ PySem.F.entry_list_extend (PySem.F.args_list_extend_2 _ _)
      (AutoSeq1.list_extend_list_list_0 l its.toArray n b its2.toArray n2 (long _ hsz) (by rw [List.size_toArray]; omega) (by omega)) ⟨e, e2, done r2⟩
  · obtain ⟨its2, r2, ⟨⟨cls, dd, data, sl⟩, ho, hc, n2, hd⟩, hs⟩ := I.tuple hB
    simp only at hc hd
    subst hc hd
    have l2 := r2.length
    have hsz : its.toArray.size + its2.toArray.size ≤ sizeLine := by rw [List.size_toArray, List.size_toArray]; omega
    exact call_meets PySem.F.slot_list_extend ⟨_, e, rfl⟩ PySem.F.entry_list_extend (PySem.F.args_list_extend_2 _ _)
      (ext_tup l its.toArray n b its2.toArray n2 dd sl (long _ hsz) (by rw [List.size_toArray]; omega) (by omega)) ⟨e, ho, done r2⟩

def itsOf (μ : Store) : AV → Option (List AV)
  | .tup xs => some xs
  | v => lsOf μ v
theorem its_rd {K : PySem.W.Frag} {ι : List Addr} {H : Hp} {μ : Store} (sr : SR K κ ι μ H) {a : AV} {x : V} {xs : List AV} (r : Rel K κ ι H a x) (e : itsOf μ a = some xs) : ∃ p vs, x = .ref p ∧ (Rd H p (.lst vs) ∨ SqT K H p vs) ∧ RelL K κ ι H xs vs := by
  cases r with
  | tup h r => cases e; exact ⟨_, _, rfl, .inr h, r⟩
  | lst h r =>
    obtain ⟨p, vs, e1, e2, e3⟩ := ls_rd sr (.lst h r) (xs := xs) e
    exact ⟨p, vs, e1, .inl e2, e3⟩
  | loc h =>
    obtain ⟨p, vs, e1, e2, e3⟩ := ls_rd sr (.loc h) (xs := xs) e
    exact ⟨p, vs, e1, .inl e2, e3⟩
  | _ => cases e
def eExt (o a : AE) : AE := fun ρ μ => (o ρ μ).bind fun l μ1 => if isLs μ1 l then (a ρ μ1).bind fun v μ2 => match stL μ2 l, itsOf μ2 v with
  | some (n, xs), some ys => if xs.length + ys.length ≤ 16777216 then .ok .non (μ2.set n (.lst (xs ++ ys))) else .bad
  | _, _ => .bad else .bad
theorem DE.ext {apos cpos : Pos} (ho : DE κ X o ra) (ha : DE κ X a rb)
    (hbase : attributeBase o "extend" X.env (eval o X.env) = eval o X.env := by rfl)
    (hfew : ((backTo cpos (starEach [a] X.env)).all (fun x => !x.1) && (backToKw cpos (keywordEach [] X.env)).all (fun x => x.1.isSome) && decide ([a].length + ([] : List Keyword).length + (if ([] : List Keyword).isEmpty then 0 else 1) < 30)) = true := by rfl)
    (hline : (apos.endLine == cpos.line) = true := by rfl) (hs : starEach [a] X.env = (false, eval a X.env) :: starEach [] X.env := by rfl) :
    DE κ X (.Call (.Attribute o "extend" apos) [a] [] cpos) (eExt ra rb) := fun W tk => by
  obtain ⟨t, p, i⟩ := ho W tk
  obtain ⟨u, q, j⟩ := ha W tk
  refine ⟨_, pe_bm PySem.F.plainAttrs_list PySem.F.slot_list_extend PySem.F.type_list_extend mt_extA p (pa_cons q pa_nil hs) hbase hfew hline hs, fun σ H Q ι ρ μ sr rl h => ?_⟩
  refine i σ H _ ι ρ μ sr rl (PG.bind h fun l μ1 ι1 H1 p1 m1 sr1 h1 lv rlv => ?_)
  by_cases hl : isLs μ1 l = true
  · rw [if_pos hl] at h1
    obtain ⟨xs0, e0⟩ := Option.isSome_iff_exists.mp hl
    obtain ⟨p0, vs0, ex, h0, _⟩ := ls_rel sr1 rlv e0
    refine ⟨lst_ty (ι := ι1) (ι' := ι1) (H' := H1) ex h0, ?_⟩
    refine j σ H1 _ ι1 ρ μ1 sr1 (rl.mono p1 m1) (PG.bind h1 fun v μ2 ι2 H2 p2 m2 sr2 h2 vv rv => ?_)
    show rExtA X.K _ [vv] H2 Q
    split at h2
    · rename_i n xs ys e1 e2
      by_cases hz : xs.length + ys.length ≤ 16777216
      · rw [if_pos hz] at h2
        obtain ⟨q1, vs, rfl, hq, e3, r2⟩ := stL_rel sr2 (rlv.mono p2 m2) e1
        obtain ⟨q2, us, rfl, d2, r3⟩ := its_rd sr2 rv e2
        exact ⟨q1, q2, vs, us, rfl, rfl, e3, d2, by rw [line16, ← r2.length, ← r3.length]; exact hz, ok_lset sr2 hq e3 (r2.append r3) .non h2⟩
      · rw [if_neg hz] at h2
        exact False.elim h2
    · exact False.elim h2
  · rw [if_neg hl] at h1
    exact False.elim h1
end
end Lr


namespace Lr
open PySem PySem.Spec L2
open PyProof.Rows hiding St

section
variable {prog : Program} {w : World} {A : Around} {E : Value → Shared → Prop} {s : Shared}
open HT in
theorem applied_rev {sl : Addr} {vs : Value} {n : Nat} {Q : Int × Int × Nat → Shared → Prop} (hs : s.heap.IsSliceOf sl .none .none vs) (ps : IsPart vs (some (-1))) (h : Q ((n : Int) - 1, -1, n) s) :
    wpAny (model prog w) A (Builtin.Slice.sliceApplied (.ref sl) (pure (n : Int))) Q E s := by
  obtain ⟨os, hos, hcs, hds⟩ := id hs
  unfold Builtin.Slice.sliceApplied Builtin.Slice.sliceFields
  refine wpAny_bind (wpAny_bind (wpAny_field hos hds (x := .none) rfl (wpAny_bind (wpAny_field hos hds (x := .none) rfl (wpAny_bind (wpAny_field hos hds (x := vs) rfl (wpAny_pure ?_)))))))
  refine wpAny_bind (slicePart_ ps ?_)
  show wpAny _ _ (if ((-1 : Int) == 0) = true then _ else _) _ _ s
  rw [if_neg (by decide)]
  refine wpAny_bind (slicePart_none (wpAny_bind (slicePart_none (wpAny_bind (wpAny_pure ?_)))))
  show wpAny _ _ (match Builtin.Slice.sliceAdjust none none (-1) (n : Int) with | (lo, hi) => pure (lo, (-1 : Int), Builtin.Slice.slicePlaces lo hi (-1))) _ _ s
  have e1 : Builtin.Slice.sliceAdjust none none (-1) (n : Int) = ((n : Int) - 1, -1) := rfl
  have e2 : Builtin.Slice.slicePlaces ((n : Int) - 1) (-1) (-1) = n := by
    unfold Builtin.Slice.slicePlaces
    have h1 : ¬ ((-1 : Int) > 0) := by omega
    simp only [h1, if_false]
    split
    · have : (((n : Int) - 1) - (-1) - 1) / (- -1) = (n : Int) - 1 := by
        rw [show (- -1 : Int) = 1 by omega, Int.ediv_one]; omega
      rw [this]; omega
    · omega
  rw [e1]
  show wpAny _ _ (pure ((n : Int) - 1, (-1 : Int), Builtin.Slice.slicePlaces ((n : Int) - 1) (-1) (-1))) _ _ s
  rw [e2]
  exact wpAny_pure h
theorem fm_map {α β : Type} {f : α → Option β} {g : α → β} : ∀ {l : List α}, (∀ m, m ∈ l → f m = some (g m)) → l.filterMap f = l.map g
  | [], _ => rfl
  | x :: xs, h => by rw [List.filterMap_cons, h x (List.mem_cons_self ..), List.map_cons, fm_map fun m hm => h m (List.mem_cons_of_mem _ hm)]
theorem pick_rev (xs : List Value) : ((List.range xs.length).filterMap fun (m : Nat) => xs.toArray[((xs.length : Int) - 1 + (m : Int) * -1).toNat]?) = xs.reverse := by
  apply List.ext_getElem?
  intro i
  have e : ∀ m, m ∈ List.range xs.length → xs.toArray[((xs.length : Int) - 1 + (m : Int) * -1).toNat]? = some (xs[xs.length - 1 - m]?.getD .none) := by
    intro m hm
    have hm := List.mem_range.mp hm
    have e1 : ((xs.length : Int) - 1 + (m : Int) * -1).toNat = xs.length - 1 - m := by omega
    rw [e1, List.getElem?_toArray, List.getElem?_eq_getElem (by omega), Option.getD_some]
  have e2 : ((List.range xs.length).filterMap fun (m : Nat) => xs.toArray[((xs.length : Int) - 1 + (m : Int) * -1).toNat]?) = (List.range xs.length).map fun m => xs[xs.length - 1 - m]?.getD .none := by
    exact fm_map e
  rw [e2]
  by_cases h : i < xs.length
  · rw [List.getElem?_map, List.getElem?_range h, List.getElem?_reverse h]
    simp
    rw [List.getElem?_eq_getElem (by omega)]
    rfl
  · rw [List.getElem?_eq_none (by simpa using h), List.getElem?_eq_none (by simpa using h)]
open HT in
theorem tuple_rev {t sl : Addr} {items : List Value} {vs : Value} {Q : Value → Shared → Prop} (ht : IsTup s.heap t items.toArray) (hs : s.heap.IsSliceOf sl .none .none vs) (ps : IsPart vs (some (-1)))
    (h : Q (.ref s.heap.objs.size) { s with heap := s.heap.push { cls := .type "tuple", data := .seq items.reverse.toArray } }) (hsz : items.length ≤ sizeLine) : wpAny (model prog w) A (getItem (.ref t) (.ref sl)) Q E s := by
  have htake : sizeOk (.seq items.reverse.toArray) := by
    show items.reverse.toArray.size ≤ sizeLine
    rw [List.size_toArray, List.length_reverse]
    exact hsz
  obtain ⟨os, hos, hcs, hds⟩ := id hs
  have hTs : s.TypeIs (.ref sl) "slice" := ⟨os, hos, hcs⟩
  unfold getItem
  try with_reducible refine wpAny_holding ?_
  first | refine wpAny_bind (wpAny_pure ?_) | skip
  refine wpAny_bind (wpAny_sequenceKey ht.typeIs (by decide) ?_)
  refine wpAny_bind (wpAny_callSpecial?_slot (name := Str.ofString "__getitem__") ht.typeIs PyProof.Rows.slot_tuple_getitem
    (wpAny_call_entry PyProof.Rows.slot_tuple_getitem ht.typeIs entry_tuple_getitem ?_ (args_tuple_getitem _ _)))
  show wpAny _ _ (Builtin.Tuple.tupleItemsOf (.ref t) >>= _) _ _ s
  refine wpAny_bind (tupleItemsOf_ ht ?_)
  refine wpAny_bind (wpAny_typeOf hTs ?_)
  rw [if_pos (by decide)]
  refine wpAny_bind (applied_rev hs ps ?_)
  have hno : ¬ ((((items.toArray.size : Int) - 1) == 0 && (-1 : Int) == 1 && items.toArray.size == items.toArray.size) = true) := by
    intro q
    rw [Bool.and_eq_true, Bool.and_eq_true] at q
    exact absurd q.1.2 (by decide)
  show wpAny _ _ (if (((items.toArray.size : Int) - 1) == 0 && (-1 : Int) == 1 && items.toArray.size == items.toArray.size) = true then _ else _) _ _ s
  rw [if_neg hno]
  rw [show ((List.range items.toArray.size).filterMap fun (m : Nat) => items.toArray[((items.toArray.size : Int) - 1 + (m : Int) * -1).toNat]?) = items.reverse from by rw [List.size_toArray]; exact pick_rev items]
  first
    | exact wpAny_bind (m := Builtin.Tuple.tupleExact _) (wpAny_newObj_type (wpAny_pure ⟨_, rfl, wpAny_pure h⟩) htake)
    | exact wpAny_bind (m := Builtin.Tuple.tupleExact _) (wpAny_newObj_type (wpAny_bind (wpAny_pure (wpAny_pure ⟨_, rfl, wpAny_pure h⟩))) htake)
    | exact wpAny_bind (wpAny_bind (m := Builtin.Tuple.tupleExact _) (wpAny_newObj_type (wpAny_pure (wpAny_pure ⟨_, rfl, wpAny_pure h⟩)) htake))
    | exact wpAny_bind (wpAny_bind (m := Builtin.Tuple.tupleExact _) (wpAny_newObj_type (wpAny_pure ⟨_, rfl, wpAny_pure h⟩) htake))
end
section
variable {κ : Kap} {X : Cx} {a b c e o : Expr} {ra rb rc r : AE} {pos p1 p2 p3 p4 pos' : Pos} {g g' : G2} {k kk : Nat} {es : List Expr} {rs : AA}
def tRevA (K : PySem.W.Frag) (te : TE) : TE := fun σ H Q => te σ H fun x H1 => ∃ a xs, x = .ref a ∧ SqT K H1 a xs ∧ ∀ p, H1 p = none → Q (.ref p) (upd H1 p (.tup xs.reverse))
theorem pe_revA {te : TE} (he : PE X e te) : PE X (.Subscript e (.Slice none none (some (.UnaryOp .USub (.Constant (.int 1) k p1) p2)) p3) pos) (tRevA X.K te) := by
  refine ⟨fun pins s σ H Q I h => ?_⟩
  refine Subscript_ (thn (he.run pins s σ H _ I h) fun v s1 ⟨x, H1, I1, r1, q1⟩ => ?_)
  obtain ⟨a, xs, ex, hx, q⟩ := q1
  subst ex
  cases r1
  have hst : PO X (some (.UnaryOp .USub (.Constant (.int 1) k p1) p2)) (tPart (tUn (rU fun i => .int (-i)) (tC (.int 1)))) := po_some (pe_un un_neg pe_int)
  refine wpAny_Slice (thn (po_none.run pins s1 σ H1 (fun o H2 => o = none ∧ H2 = H1) I1 ⟨rfl, rfl⟩) fun vl s2 ⟨l, H2, I2, pl, el, e2⟩ => ?_)
  subst el e2
  refine thn (po_none.run pins s2 σ H2 (fun o H3 => o = none ∧ H3 = H2) I2 ⟨rfl, rfl⟩) fun vu s3 ⟨u, H3, I3, pu, eu, e3⟩ => ?_
  subst eu e3
  refine thn (hst.run pins s3 σ H3 (fun o H4 => o = some (-1) ∧ H4 = H3) I3 ⟨1, rfl, -1, rfl, rfl, rfl⟩) fun vs s4 ⟨o, H4, I4, ps, eo, e4⟩ => ?_
  subst eo e4
  have I5 : Inv X pins σ H4 { s4 with heap := s4.heap.push { cls := .type "slice", data := .fields #[vl, vu, vs] } } := I4.kept (t' := s4.toks) fun b ob q => Heap.get?_push_of_some _ q
  obtain ⟨its, r, ht, hz⟩ := I5.tuple hx
  have hlen := r.length
  cases pl
  cases pu
  show wpAny (model X.prog X.w) X.A (subscriptTail e (.Slice none none (some (.UnaryOp .USub (.Constant (.int 1) k p1) p2)) p3) (.ref a) (.ref s4.heap.objs.size)) (EP X pins σ Q) X.xe { s4 with heap := s4.heap.push { cls := .type "slice", data := .fields #[.none, .none, vs] } }
  refine tail_any (ops := [.ref a, .ref s4.heap.objs.size]) ht.typeIs (PyProof.Rows.slot_tuple_getitem.lookup) ?_ (by with_unfolding_all rfl)
  refine tuple_rev ht (Heap.IsSliceOf.new _ _ _ vs) ps ?_ (by omega)
  refine ⟨.ref _, _, I5.laid (t' := s4.toks) (o := .tup xs.reverse) (fun b ob q => Heap.get?_push_of_some _ q) (Nat.le_refl _) ?_, rfl, q _ (I5.hok.fresh (Nat.le_refl _))⟩
  exact ⟨by rw [List.length_reverse]; exact hz, _, r.reverse, IsTup.new _ _⟩
def eRev (a : AE) : AE := fun ρ μ => (a ρ μ).bind fun x μ1 => match x with
  | .tup xs => .ok (.tup xs.reverse) μ1
  | _ => .bad
theorem DE.rev (ha : DE κ X a ra) : DE κ X (.Subscript a (.Slice none none (some (.UnaryOp .USub (.Constant (.int 1) k p1) p2)) p3) pos) (eRev ra) := fun W tk => by
  obtain ⟨t, p, i⟩ := ha W tk
  refine ⟨_, pe_revA p, fun σ H Q ι ρ μ sr rl h => ?_⟩
  refine i σ H _ ι ρ μ sr rl (PG.bind h fun x μ1 ι1 H1 p1 m1 sr1 h1 v rv => ?_)
  cases x <;> first | exact False.elim h1 | skip
  cases rv with
  | tup h r => exact ⟨_, _, rfl, h, fun p hn => okT sr1 h1 r.reverse hn⟩


def keyOf : AV → Option Key
  | .int i => some (.inl i)
  | .str x => some (.inr x)
  | _ => none
def keysOf : List (AV × AV) → Option (List Key)
  | [] => some []
  | (x, _) :: r => match keyOf x, keysOf r with
    | some k, some ks => some (k :: ks)
    | _, _ => none
def eDic (r : Loc → Store → Res (List (AV × AV))) : AE := fun ρ μ => (r ρ μ).bind fun kvs μ1 => match keysOf kvs with
  | some ks => if ks.Nodup ∧ kvs.length ≤ 15 then .ok (.dct kvs) μ1 else .bad
  | none => .bad
def pNil : Loc → Store → Res (List (AV × AV)) := fun _ μ => .ok [] μ
def pCons (a b : AE) (r : Loc → Store → Res (List (AV × AV))) : Loc → Store → Res (List (AV × AV)) := fun ρ μ => (a ρ μ).bind fun x μ1 => (b ρ μ1).bind fun y μ2 => (r ρ μ2).bind fun kvs μ3 => .ok ((x, y) :: kvs) μ3
inductive RelP (K : PySem.W.Frag) (κ : Kap) (ι : List Addr) (H : Hp) : List (AV × AV) → List (V × V) → Prop
  | nil : RelP K κ ι H [] []
  | cons {x y : AV} {v u : V} {kvs : List (AV × AV)} {ps : List (V × V)} (h : Rel K κ ι H x v) (g : Rel K κ ι H y u) (r : RelP K κ ι H kvs ps) : RelP K κ ι H ((x, y) :: kvs) ((v, u) :: ps)
theorem RelP.length {K : PySem.W.Frag} {ι : List Addr} {H : Hp} : ∀ {kvs : List (AV × AV)} {ps : List (V × V)}, RelP K κ ι H kvs ps → kvs.length = ps.length
  | _, _, .nil => rfl
  | _, _, .cons _ _ r => by rw [List.length_cons, List.length_cons, RelP.length r]
theorem RelP.monoW {K : PySem.W.Frag} {ι ι' : List Addr} {H H' : Hp} (p : ι <+: ι') (m : HW H H') : ∀ {kvs : List (AV × AV)} {ps : List (V × V)}, RelP K κ ι H kvs ps → RelP K κ ι' H' kvs ps
  | _, _, .nil => .nil
  | _, _, .cons h g r => .cons (h.monoW p m) (g.monoW p m) (RelP.monoW p m r)

def DP (κ : Kap) (X : Cx) (pos : Pos) (keys : List (Option Expr)) (vals : List Expr) (r : Loc → Store → Res (List (AV × AV))) : Prop := ∀ W, Takes X W → ∃ trs, PPs X pos keys vals trs ∧ ∀ σ H Q ι ρ μ, SR X.K κ ι μ H → RelS X.K κ ι H ρ σ →
  PG X.K κ W σ ι H (fun kvs ι' H' => HM ι H ι' H' → ∀ ps, RelP X.K κ ι' H' kvs ps → Q ps H') (r ρ μ) → tPairs trs σ H Q
theorem DP.nil : DP κ X pos [] [] pNil := fun W tk => ⟨[], pps_nil, fun σ H Q ι ρ μ sr rl h => h ι H (List.prefix_refl _) (HM.refl _) sr (HM.refl _) [] .nil⟩
theorem DP.cons {ks : List (Option Expr)} {vs : List Expr} {rp : Loc → Store → Res (List (AV × AV))} (ha : DE κ X a ra) (hb : DE κ X b rb) (hr : DP κ X pos ks vs rp) : DP κ X pos (some a :: ks) (b :: vs) (pCons ra rb rp) := fun W tk => by
  obtain ⟨t1, q1, i1⟩ := ha W tk
  obtain ⟨t2, q2, i2⟩ := hb W tk
  obtain ⟨t3, q3, i3⟩ := hr W tk
  refine ⟨_, pps_cons q1 q2 q3, fun σ H Q ι ρ μ sr rl h => ?_⟩
  refine i1 σ H _ ι ρ μ sr rl (PG.bind0 h fun x μ1 ι1 H1 p1 m1 sr1 h1 v rv => ?_)
  refine i2 σ H1 _ ι1 ρ μ1 sr1 (rl.mono p1 m1) (PG.bindF m1 h1 fun y μ2 ι2 H2 p2 m2 sr2 h2 u ru => ?_)
  refine i3 σ H2 _ ι2 ρ μ2 sr2 ((rl.mono p1 m1).mono p2 m2) (PG.bindF (m1.trans m2) h2 fun kvs μ3 ι3 H3 p3 m3 sr3 h3 _ ps rp => ?_)
  have m := (m1.trans m2).trans m3
  exact h3 ι3 H3 m.pre m sr3 m _ (.cons ((rv.mono p2 m2).mono p3 m3) (ru.mono p3 m3) rp)
theorem keyOf_kV {K : PySem.W.Frag} {ι : List Addr} {H : Hp} {x : AV} {v : V} {k : Key} (r : Rel K κ ι H x v) (e : keyOf x = some k) : v = kV k := by
  cases r <;> simp only [keyOf] at e <;> cases e <;> rfl
theorem keys_kV {K : PySem.W.Frag} {ι : List Addr} {H : Hp} : ∀ {kvs : List (AV × AV)} {ps : List (V × V)} {ks : List Key}, RelP K κ ι H kvs ps → keysOf kvs = some ks → ∃ qs : List (Key × V), ps = qs.map (fun kv => (kV kv.1, kv.2)) ∧ qs.map (·.1) = ks
  | _, _, _, .nil, e => by cases e; exact ⟨[], rfl, rfl⟩
  | _, _, _, .cons (x := x) (y := y) (v := v) (u := u) (kvs := kvs) h g r, e => by
    simp only [keysOf] at e
    split at e
    · rename_i k ks e1 e2
      cases e
      obtain ⟨qs, eq, ek⟩ := keys_kV r e2
      refine ⟨(k, u) :: qs, ?_, ?_⟩
      · rw [List.map_cons, ← eq, keyOf_kV h e1]
      · rw [List.map_cons, ek]
    · cases e
theorem merge_new : ∀ (qs acc : List (Key × V)), (acc.map (·.1) ++ qs.map (·.1)).Nodup → mergeK acc qs = acc ++ qs
  | [], acc, _ => by rw [List.append_nil]; rfl
  | q :: qs, acc, h => by
    have hq : (acc.any fun kv => decide (kv.1 = q.1)) = false := by
      rw [List.any_eq_false]
      intro kv hk e
      have e := of_decide_eq_true e
      rw [List.map_cons, List.nodup_append] at h
      exact h.2.2 kv.1 (List.mem_map_of_mem hk) q.1 (List.mem_cons_self ..) e
    show mergeK (putK acc q.1 q.2) qs = _
    have e : putK acc q.1 q.2 = acc ++ [q] := by
      unfold putK
      rw [if_neg (by rw [hq]; exact Bool.false_ne_true)]
    rw [e, merge_new qs (acc ++ [q]) (by simpa using h)]
    simp
theorem pairs_rel {P : Program} {w : World} {K : PySem.W.Frag} {ι : List Addr} {H : Hp} : ∀ {kvs : List (AV × AV)} {qs : List (Key × V)} {vs : List (Key × Value)} {es : List DictEntry}, RelP K κ ι H kvs (qs.map (fun kv => (kV kv.1, kv.2))) → KV qs vs → Pairs (mixKind P w) es vs → RelD K κ ι H kvs es
  | [], [], _, _, _, r, p => by cases r; cases p; exact .nil
  | (x, y) :: kvs, q :: qs, _, _, rp, r, p => by
    cases r with
    | cons r1 r2 =>
      cases p with
      | cons h1 h2 p =>
        rw [List.map_cons] at rp
        cases rp with
        | cons h g rp =>
          refine .cons h ?_ g (by rw [h2]; exact r1.2) (pairs_rel rp r2 p)
          have hk := r1.1 ▸ h1
          rename_i e0 es0 kv0
          rcases keyIs_shape (k := q.1) (v := es0.key) hk with ⟨i, t, e1, e2⟩ | ⟨z, t, e1, e2⟩
          · rw [e1, e2]; exact ⟨t, rfl⟩
          · rw [e1, e2]; exact ⟨t, rfl⟩
def tFzD (t : TE) : TE := fun σ H Q => t σ H fun x H1 => ∃ p qs, x = .ref p ∧ H1 p = some (.dK qs) ∧ ∀ (P : Program) (w : World) (o : Obj) (es : Array DictEntry) (ep : Nat) (vs : List (Key × Value)), o.ExactDict → o.data = .dict es ep → KV qs vs → Pairs (mixKind P w) es.toList vs → p ≠ sysModules →
  Q x (upd H1 p (.frz o (.ext fun h => h.get? p = some o)))
theorem pe_fzD {e : Expr} {t : TE} (h : PE X e t) : PE X e (tFzD t) := by
  refine ⟨fun pins s σ H Q I hw => ?_⟩
  refine thn (h.run pins s σ H _ I hw) fun v s1 ⟨x, H1, I1, r1, p, qs, ex, ep, fin⟩ => ?_
  obtain ⟨z, hd, vs, rk, o, es, n, eo, ho, hes, _, hp, _⟩ := dk_of I1.hok ep
  have ne : ∀ {b : Addr}, H1 b = none → b ≠ p := fun q z => by subst z; rw [ep] at q; cases q
  have nt : ∀ {b : Addr} {u : HO}, H1 b = some u → (∀ xs, u ≠ .dK xs) → b ≠ p := fun q q2 z => by subst z; rw [ep] at q; cases q; exact q2 _ rfl
  refine ⟨x, _, I1.un (h' := s1.heap) (t' := s1.toks) (H' := upd H1 p (.frz o (.ext fun h => h.get? p = some o))) ⟨fun b o q _ _ _ => q, fun b o q _ _ _ => ⟨o.slots, q⟩, fun b o q n _ => by rw [upd_ne (ne n)]; exact n, fun b o q _ => ⟨o, q⟩, fun b xs q => by rw [upd_ne (nt q (fun _ => by simp))]; exact q, fun b o u q => by rw [upd_ne (nt q (fun _ => by simp))]; exact q, fun b ps q => ⟨#[], by rw [upd_ne (nt q (fun _ => by simp)), q]; simp⟩⟩ fun b u q => ?_, r1, fin _ _ o es n vs ho hes rk hp (by intro z; subst z; simp at hd)⟩
  by_cases hb : b = p
  · subst hb
    rw [upd_same] at q
    cases q
    exact ⟨eo, eo, ⟨o, eo⟩, fun h1 h2 a b => b o a⟩
  · rw [upd_ne hb] at q
    exact (I1.hok b u q).stay (fun c v _ z => z) (fun c z => by rw [upd_ne (nt z (fun _ => by simp))]; exact z) fun c xs z => by rw [upd_ne (nt z (fun _ => by simp))]; exact z

theorem dic_fin {K : PySem.W.Frag} {W : WX} {σ : St} {ι : List Addr} {H : Hp} {Q : VK} {kvs : List (AV × AV)} {ι1 : List Addr} {H1 : Hp} {p : Addr} {μ1 : Store} {qs : List (Key × V)} {P : Program} {w : World} {o : Obj} {es : Array DictEntry} {ep : Nat} {vs : List (Key × Value)}
    (sr1 : SR K κ ι1 μ1 H1) (hn : p ∉ ι1) (m1 : HM ι H ι1 H1) (h0 : H p = none) (e0 : H1 p = some (.dK [])) (h : PG K κ W σ ι H (CV K κ Q) (.ok (.dct kvs) μ1)) (rp : RelP K κ ι1 H1 kvs (qs.map fun kv => (kV kv.1, kv.2)))
    (ho : o.ExactDict) (hd : o.data = .dict es ep) (rk : KV qs vs) (pr : Pairs (mixKind P w) es.toList vs) (hs : p ≠ sysModules) : Q (.ref p) (upd H1 p (.frz o (.ext fun h => h.get? p = some o))) := by
  have mu : Mut (H1 p) := by rw [e0]; trivial
  have wk : HW H1 (upd H1 p (.frz o (.ext fun h => h.get? p = some o))) := (HM.mine (HM.refl (ι := [p]) H1) mu (.inr (by simp))).w
  refine h ι1 _ m1.pre (m1.mine mu (.inl h0)) (sr1.other wk hn (by rw [e0]; trivial)) _ (.dct upd_same ho hd hs ?_)
  exact pairs_rel (rp.monoW (List.prefix_refl _) wk) rk pr
theorem DE.dic0 (cl : Cl X kk) : DE κ X (.Dict [] [] pos) (eDic pNil) := fun W tk => by
  refine ⟨_, pe_fzD pe_dnewK, fun σ H Q ι ρ μ sr rl h p hn => ?_⟩
  refine ⟨p, [], rfl, upd_same, fun P w o es ep vs ho hd rk pr hs => ?_⟩
  have h2 : PG X.K κ W σ ι H (CV X.K κ Q) (.ok (.dct []) μ) := by simpa [eDic, pNil, keysOf, Res.bind] using h
  exact dic_fin (sr.new (o := .dK []) hn) (sr.notin hn) (HM.fresh hn) hn upd_same h2 .nil ho hd rk pr hs
theorem DE.dic {ks : List (Option Expr)} {vs : List Expr} {rp : Loc → Store → Res (List (AV × AV))} (h : DP κ X pos ks vs rp) (hall : ks.all (·.isSome) = true := by rfl) (hl : ks.length = vs.length := by rfl) (h0 : ks ≠ [] := by simp) (h15 : ks.length ≤ 15 := by decide) :
    DE κ X (.Dict ks vs pos) (eDic rp) := fun W tk => by
  obtain ⟨t, p, i⟩ := h W tk
  refine ⟨_, pe_fzD (pe_disp p hall hl h0 h15), fun σ H Q ι ρ μ sr rl h p hn => ?_⟩
  have rl1 := rl.mono (List.prefix_refl _) (HM.fresh (o := .dK []) hn)
  refine i σ _ _ ι ρ μ (sr.new (o := .dK []) hn) rl1 (PG.bindF (HM.fresh hn) h fun kvs μ1 ι1 H1 p1 m1 sr1 h1 _ ps rp => ?_)
  have e1 : H1 p = some (.dK []) := m1.oth p _ (sr.notin hn) upd_same
  split at h1
  · rename_i kk ek
    by_cases hk : kk.Nodup ∧ kvs.length ≤ 15
    · rw [if_pos hk] at h1
      obtain ⟨qs, eq, eqk⟩ := keys_kV rp ek
      subst eq
      have hlen := rp.length
      rw [List.length_map] at hlen
      have em : mergeK [] qs = qs := by
        have := merge_new qs [] (by rw [List.map_nil, List.nil_append, eqk]; exact hk.1)
        simpa using this
      refine ⟨e1, qs, rfl, by omega, p, mergeK [] qs, rfl, upd_same, fun P w o es ep vs ho hd rk pr hs => ?_⟩
      rw [upd_upd]
      rw [em] at rk
      have hn1 : p ∉ ι1 := fun z => by
        have := m1.new p z (sr.notin hn)
        rw [upd_same] at this
        cases this
      exact dic_fin sr1 hn1 ((HM.fresh hn).trans m1) hn e1 h1 rp ho hd rk pr hs
    · rw [if_neg hk] at h1
      exact False.elim h1
  · exact False.elim h1
end
end Lr


namespace Lr
open PySem PySem.Spec L2
open PyProof.Rows hiding St

theorem law_run {P : Program} {w : World} {K : PySem.W.Frag} {κ : Kap} {mg mb : Str → Option Value} {k : Nat} {fa a : Addr} {cs : List (Addr × Addr)} {fd : FuncData} {x : Str} {r : Fn} {s₁ : Shared} {vs : List Value} {ns : List Int} {μ' : Store}
    (KX : K.In s₁.heap) (hns : s₁.heap.Ns mainGlobals mg) (hb : s₁.heap.Ns builtinsNs mb) (hbb : ∀ x : Str, x ≠ "__name__" → mb x = bootBuiltins x) (hlim : s₁.heap.NoLimit) (hsm : s₁.heap.NoSeer) (hg : s₁.gens = #[])
    (hT : ∀ p ∈ cs, s₁.heap.get? p.2 = some { cls := .none, data := .fields #[] }) (nT : ∀ p ∈ cs, K.lookup p.2 = none) (C : ∀ p ∈ cs, PySem.W.CodeHd s₁.heap p.1 p.2)
    (hbm : ∃ (bm : Addr) (ob : Obj), mg "__builtins__" = some (.ref bm) ∧ bm ≠ builtinsNs ∧ s₁.heap.get? bm = some ob ∧ ob.cls = .type "module" ∧ ob.dict = some builtinsNs ∧ ob.data = .plain)
    (hkT : ∀ p ∈ κ.T, p.1 ∈ cs.map (·.2))
    (ha : s₁.heap.get? a = some { cls := .type "list", data := .seq vs.toArray }) (hi : IntsAre vs ns) (hl : ns.length ≤ sizeLine) (hr : Room k callerA)
    (F : ∀ base : Heap, K.In base → base.Ns mainGlobals mg → (∃ o, base.get? sysModules = some o) → (∀ p ∈ cs, LamX.TabB base mg p.1 p.2) → FnD κ P w K mg base k fa fd [x] r) (hbind : ∀ (s : Shared) (u : Value), BindsTo s fd ⟨[u], []⟩ [(x, u)])
    (hok : r [.scr ns] [] = .ok (.bl true) μ') :
    codeAny (model P w) callerA (.call (.ref fa) ⟨[.ref a], []⟩) (fun r s' => r = .ok (.ret (.bool true)) ∧ OldK s₁.heap s'.heap ∧ s'.os = s₁.os ∧ AllBare s'.gens) s₁ := by
  have rv := vals_ints hi
  have lenV := hi.length
  obtain ⟨mm, hmods, _⟩ := hsm.mods
  have isT : ∀ b : Addr, b ∈ cs.map (·.2) → s₁.heap.get? b = some { cls := .none, data := .fields #[] } := fun b hb => by
    obtain ⟨p, hp, e⟩ := List.mem_map.mp hb
    rw [← e]
    exact hT p hp
  have aT : a ∉ cs.map (·.2) := fun z => by
    have q := isT a z
    rw [ha] at q
    have z' : Data.seq vs.toArray _ = Data.fields #[] := congrArg Obj.data (Option.some.inj q)
    cases z'
  have memT : ∀ p ∈ cs, p.2 ∈ cs.map (·.2) := fun p hp => List.mem_map.mpr ⟨p, hp, rfl⟩
  have core : ∀ H : Hp, (∀ p ∈ cs, H p.2 = some (.tbl #[])) → (∀ b, H b = none ∨ b ∈ cs.map (·.2) ∨ ∃ o xs, H b = some (.frz o (.lst xs))) → ScL K H a (ns.map V.int) → HOk P w H s₁.heap → (∀ b, H b ≠ none → b = a ∨ b ∈ cs.map (·.2)) → (H a ≠ none → K.lookup a = none) →
      codeAny (model P w) callerA (.call (.ref fa) ⟨[.ref a], []⟩) (fun r s' => r = .ok (.ret (.bool true)) ∧ OldK s₁.heap s'.heap ∧ s'.os = s₁.os ∧ AllBare s'.gens) s₁ := by
    intro H hH hO hS hok2 hA hK
    have base_of : ∀ {b : Addr} {o : Obj}, s₁.heap.get? b = some o → H b = none → (hidT s₁.heap H).get? b = some o := fun e n => hidT_get e n
    have noD : ∀ {b : Addr} {o : Obj}, s₁.heap.get? b = some o → (∀ vs n, o.data ≠ .seq vs n) → o.data ≠ .fields #[] → H b = none := fun {b o} e h1 h2 => by
      cases q : H b with
      | none => rfl
      | some u =>
        rcases hA b (by rw [q]; simp) with e' | e'
        · rw [e', ha] at e
          cases e
          exact (h1 _ _ rfl).elim
        · rw [isT b e'] at e
          cases e
          exact (h2 rfl).elim
    have noA : ∀ {b : Addr} {o : Obj} {es : Array DictEntry} {ep : Nat}, s₁.heap.get? b = some o → o.data = .dict es ep → H b = none := fun {b o es ep} e d => by
      refine noD e (fun vs n z => ?_) fun z => ?_
      · rw [d] at z
        cases z
      · rw [d] at z
        cases z
    have nsAt : ∀ {b : Addr} {m : Str → Option Value}, s₁.heap.Ns b m → (hidT s₁.heap H).Ns b m := fun {b m} ⟨o, es, ep, e, d, r⟩ => ⟨o, es, ep, base_of e (noA e d), d, r⟩
    have kin : K.In (hidT s₁.heap H) := fun b o e => base_of (KX b o e) (by
      cases q : H b with
      | none => rfl
      | some u =>
        rcases hA b (by rw [q]; simp) with e' | e'
        · rw [e'] at e q
          rw [hK (by rw [q]; simp)] at e
          cases e
        · obtain ⟨p, hp, ep⟩ := List.mem_map.mp e'
          rw [← ep, nT p hp] at e
          cases e)
    have mods : ∃ o, (hidT s₁.heap H).get? sysModules = some o := let ⟨o, _, _, e, _⟩ := nsAt hmods; ⟨o, e⟩
    have hM : Mod K mg (hidT s₁.heap H) := ⟨kin, nsAt hns, ⟨mb, nsAt hb, hbb⟩, let ⟨mc, h1, h2⟩ := hlim; ⟨mc, nsAt h1, h2⟩⟩
    have TB : ∀ p ∈ cs, LamX.TabB (hidT s₁.heap H) mg p.1 p.2 := fun p hp => by
      have hTp := hT p hp
      refine ⟨?_, ?_, fun z => ?_⟩
      · obtain ⟨o, us, file, tf, flags, tg, inF, text, tt, e1, r1, r2, r3, r4, r5, r6, r7, r8, hne⟩ := C p hp
        refine ⟨o, us, file, tf, flags, tg, inF, text, tt, base_of e1 (noD e1 (fun vs n z => ?_) fun z => ?_), r1, r2, r3, r4, r5, r6, r7, r8, hne⟩
        · rw [r2] at z
          cases z
        · rw [r2] at z
          cases z
          simp at r3
      · obtain ⟨bm, ob, b1, b2, b3, b4, b5, b6⟩ := hbm
        have nG : bm ≠ mainGlobals := fun q => by
          obtain ⟨o, es, ep, e, hd, _⟩ := hns
          rw [q, e] at b3
          cases b3
          rw [hd] at b6
          cases b6
        have nP : bm ≠ p.2 := fun q => by
          rw [q, hTp] at b3
          cases b3
          cases b6
        refine ⟨bm, ob, b1, b2, nG, nP, base_of b3 (noD b3 (fun vs n z => ?_) fun z => ?_), b4, b5, b6⟩
        · rw [b6] at z
          cases z
        · rw [b6] at z
          cases z
      · obtain ⟨o, es, ep, e, hd, _⟩ := hns
        rw [z, hTp] at e
        cases e
        cases hd
    have tabs : LamX.Tabs κ.T H := fun p hp => by
      obtain ⟨q, hq, e⟩ := List.mem_map.mp (hkT p hp)
      exact LamX.TabS.nil (by rw [← e]; exact hH q hq)
    have e0 : Env0 P w K mg (hidT s₁.heap H) callerA [] s₁ H := ⟨rfl, hM, fun b o e => of_hidT e, Nat.le_of_eq (hidT_size _ _), trivial, fun b hb => absurd (show b ∈ ([] : List Addr) from hb) (by simp), hok2, .of_eq hg⟩
    refine codeAny_mono ((F _ kin (nsAt hns) mods TB).run callerA [] s₁ H ⟨[.ref a], []⟩ [.ref a] [.ref a] [.scr ns] [] [] (fun v _ => v = .bl true) (fun _ _ _ => False) hr rfl e0 (hbind s₁ (.ref a)) (.cons rfl .nil) (.cons (.scr hS) .nil) rfl ?_ ?_) fun r s' h => ?_
    · exact ⟨rfl, List.nodup_nil, fun b hb => by simp at hb, fun b hb => by simp at hb, tabs, fun n q b h1 h2 => by simp at h1⟩
    · rw [hok]
      intro ι' H' _ _ _ v rel
      cases rel
      rfl
    cases r with
    | error e =>
      exfalso
      obtain ⟨_, _, _, _, _, _, _, _, _, h⟩ := h
      exact h.2.2.2
    | ok fl =>
      cases fl with
      | next => exact False.elim h
      | brk => exact False.elim h
      | cont => exact False.elim h
      | ret u =>
        obtain ⟨v, H', os, bare, un, hok', r', q⟩ := h
        have q' : v = .bl true := q
        subst q'
        obtain rfl : u = Value.bool true := r'
        have key : ∀ b o, b ∉ cs.map (·.2) → s₁.heap.get? b = some o → s'.heap.get? b = some o := fun b o nb e => by
          cases q : H b with
          | none => exact un.keep b o e q (by intro z; exact absurd (show b ∈ ([] : List Addr) from z) (by simp)) (by simp)
          | some u =>
            rcases hO b with z | z | ⟨ob, xs, z⟩
            · rw [q] at z; cases z
            · exact absurd z nb
            · have z2 := un.frzs b ob _ z
              obtain ⟨e1, _⟩ := hok2 b _ z
              obtain ⟨e2, _⟩ := hok' b _ z2
              rw [e] at e1; cases e1
              exact e2
        have grown : ∀ p ∈ cs, ∃ more : Array Value, s'.heap.get? p.2 = some { cls := .none, data := .fields more } := fun p hp => by
          obtain ⟨more, z⟩ := un.tbls p.2 #[] (hH p hp)
          exact ⟨_, hok' p.2 _ z⟩
        refine ⟨rfl, ⟨fun b o e => ?_, fun b o e => ?_⟩, os, bare⟩
        · by_cases hb : b ∈ cs.map (·.2)
          · obtain ⟨p, hp, ep⟩ := List.mem_map.mp hb
            obtain ⟨more, hm⟩ := grown p hp
            rw [← ep] at e ⊢
            rw [hT p hp] at e
            cases e
            exact .inr (.inl ⟨((C p hp).tab (hT p hp)).isCodeTable, rfl, #[], more, rfl, by rw [Array.empty_append]; exact hm⟩)
          · exact .inl (key b o hb e)
        · by_cases hb : b ∈ cs.map (·.2)
          · obtain ⟨p, hp, ep⟩ := List.mem_map.mp hb
            obtain ⟨more, hm⟩ := grown p hp
            rw [← ep]
            exact ⟨_, hm⟩
          · exact ⟨o, key b o hb e⟩
  cases hk : K.lookup a with
  | some o =>
    have e := KX a o hk
    rw [ha] at e
    cases e
    refine core (fun b => if b ∈ cs.map (·.2) then some (.tbl #[]) else none) (fun p hp => if_pos (memT p hp)) (fun b => ?_) (.inr (.inr ⟨_, vs.toArray, _, hk, rfl, rfl, rfl, by rw [List.size_toArray, lenV]; exact hl, by simpa using rv⟩)) (fun b u z => ?_) (fun b z => ?_) fun z => absurd (show (if a ∈ cs.map (·.2) then some (HO.tbl #[]) else none) = none from if_neg aT) z
    · by_cases hb : b ∈ cs.map (·.2)
      · exact .inr (.inl hb)
      · exact .inl (if_neg hb)
    · by_cases hb : b ∈ cs.map (·.2)
      · have z' := (if_pos hb).symm.trans z
        cases z'
        exact isT b hb
      · have z' := (if_neg hb).symm.trans z
        cases z'
    · by_cases hb : b ∈ cs.map (·.2)
      · exact .inr hb
      · exact absurd (if_neg hb) z
  | none =>
    refine core (fun b => if b = a then some (.frz { cls := .type "list", data := .seq vs.toArray } (.lst (ns.map V.int))) else if b ∈ cs.map (·.2) then some (.tbl #[]) else none) (fun p hp => (if_neg (show ¬ p.2 = a from fun z => aT (by rw [← z]; exact memT p hp))).trans (if_pos (memT p hp))) (fun b => ?_)
      (.inl ⟨{ cls := .type "list", data := .seq vs.toArray }, if_pos rfl⟩) (fun b u z => ?_) (fun b z => ?_) fun _ => hk
    · by_cases hb : b = a
      · exact .inr (.inr ⟨_, _, if_pos hb⟩)
      · by_cases hb2 : b ∈ cs.map (·.2)
        · exact .inr (.inl hb2)
        · exact .inl ((if_neg hb).trans (if_neg hb2))
    · by_cases hb : b = a
      · have z' := (if_pos hb).symm.trans z
        cases z'
        rw [hb]
        exact ⟨ha, by rw [List.length_map]; exact hl, vs, _, rv, ha⟩
      · have z1 := (if_neg hb).symm.trans z
        by_cases hb2 : b ∈ cs.map (·.2)
        · have z' := (if_pos hb2).symm.trans z1
          cases z'
          exact isT b hb2
        · have z' := (if_neg hb2).symm.trans z1
          cases z'
    · by_cases hb : b = a
      · exact .inl hb
      · by_cases hb2 : b ∈ cs.map (·.2)
        · exact .inr hb2
        · exact absurd ((if_neg hb).trans (if_neg hb2)) z
theorem Cl.blk {X : Cx} {k : Nat} (c : Cl X k) (s : Shared) (H : Hp) (scope : Scope) (env : Env) (fp : List Addr) : Cl (X.blk s H scope env fp) k := ⟨c.calm, c.nd, c.room, c.gd, c.sm⟩
theorem DN.lcc {κ : Kap} {X : Cx} {k : Nat} {elt tg iter : Expr} {ifs : List Expr} {scope : Scope} {own : List (Str × Nat)} {it : AI} {is : List Nat} {g : AG} {tt : AT} {te : AE} {pos : Pos} (cl : Cl X k) (hi : DI κ X tg iter it) (ok : BlkOk X.N X.env.scope scope own) (hv : ∀ i ∈ is, i ∈ own.map (·.2))
    (hg : ∀ (s : Shared) (H : Hp) (C : Addr) (d : List (Str × Addr)) (fp : List Addr), Cl (X.blk s H scope (compEnvC scope d C X.env) fp) k → DG κ (X.blk s H scope (compEnvC scope d C X.env) fp) tg is g)
    (ht : ∀ (s : Shared) (H : Hp) (C : Addr) (d : List (Str × Addr)) (fp : List Addr), Cl (X.blk s H scope (compEnvC scope d C X.env) fp) k → PTs (X.blk s H scope (compEnvC scope d C X.env) fp) ifs (kT X.K κ W0 tt))
    (he : ∀ (s : Shared) (H : Hp) (C : Addr) (d : List (Str × Addr)) (fp : List Addr), Cl (X.blk s H scope (compEnvC scope d C X.env) fp) k → DE κ (X.blk s H scope (compEnvC scope d C X.env) fp) elt te) (hs : ∀ x, foldedSetIterable iter X.env x = pure x := by intro _; rfl) :
    DN κ X (.ListComp elt [⟨tg, iter, ifs, 0⟩] scope pos) (aLc it (own.map (·.2)) g tt te) :=
  DN.lc cl hi ok hv (fun s H C d fp => hg s H C d fp (cl.blk s H _ _ fp)) (fun s H C d fp => ht s H C d fp (cl.blk s H _ _ fp)) (fun s H C d fp => he s H C d fp (cl.blk s H _ _ fp)) hs

theorem law_walk {l : PySem.W.OpenLaw} {n k : Nat} {q : Program} {loose : List Str} {XP : (Str → Option Value) → Heap → Prop} {YP : World → Heap → Prop} {d : DefRec} {K : Params → PySem.W.Frag} {x : Str}
    (hn : l.most = some n) (hn2 : n ≤ sizeLine) (hdf : d.params.defaults = []) (hr : Room k callerA) (hq : importsNone q = true)
    (hY : ∀ (w : World) (h : Heap), YP w h → (K w.params).In h)
    (F : ∀ (w : World) (mg : Str → Option Value) (fa : Addr) (h : Heap), (K w.params).In h → h.Ns mainGlobals mg → mg d.name = some (.ref fa) →
      ∃ (fd : FuncData) (κ : Kap) (r : Fn), (∀ (s : Shared) (u : Value), BindsTo s fd ⟨[u], []⟩ [(x, u)]) ∧ (∀ ns : List Int, ns.length ≤ n → (∀ i ∈ ns, Builtin.Int.intBits i ≤ 1048576) → ∃ μ', r [.scr ns] [] = .ok (.bl true) μ') ∧ κ.T = [] ∧
        ∀ base : Heap, (K w.params).In base → base.Ns mainGlobals mg → (∃ o, base.get? sysModules = some o) → FnD κ l.prog w (K w.params) mg base k fa fd [x] r) :
    PySem.W.WalkO q loose XP YP l.row.toRowW d [] (fun f vs => PySem.call f vs) := by
  refine Att.attach_callB hn hdf fun w s₀ s₁ mg mb fa o pm cd doc a vs ns G Y ho hd hcd hmg hobj hints hlen hbits hg => ?_
  have KX := hY w _ Y
  obtain ⟨fd, κ, r, hb, hok, hT0, hF⟩ := F w mg fa _ KX G.T.g hmg
  obtain ⟨μ', e⟩ := hok ns hlen hbits
  exact law_run (cs := []) KX G.T.g G.T.b G.T.builtins G.T.nolimit (G.T.seer hq) hg (fun p hp => absurd hp (by simp)) (fun p hp => absurd hp (by simp)) (fun p hp => absurd hp (by simp)) G.T.bmain (by rw [hT0]; intro p hp; exact absurd hp (by simp)) hobj hints (Nat.le_trans hlen hn2) hr (fun base h1 h2 h3 _ => hF base h1 h2 h3) hb e

theorem law_walkT {l : PySem.W.OpenLaw} {n k : Nat} {q : Program} {loose : List Str} {XP : (Str → Option Value) → Heap → Prop} {YP : World → Heap → Prop} {d : DefRec} {K : Params → PySem.W.Frag} {x : Str}
    (hn : l.most = some n) (hn2 : n ≤ sizeLine) (hdf : d.params.defaults = []) (hr : Room k callerA) (hq : importsNone q = true)
    (hY : ∀ (w : World) (h : Heap), YP w h → (K w.params).In h)
    (F : ∀ (w : World) (mg : Str → Option Value) (fa : Addr) (h : Heap), YP w h → (K w.params).In h → h.Ns mainGlobals mg → mg d.name = some (.ref fa) →
      ∃ (fd : FuncData) (κ : Kap) (cs : List (Addr × Addr)) (r : Fn), (∀ p ∈ cs, h.get? p.2 = some { cls := .none, data := .fields #[] }) ∧ (∀ p ∈ cs, (K w.params).lookup p.2 = none) ∧ (∀ p ∈ cs, PySem.W.CodeHd h p.1 p.2) ∧ (∀ p ∈ κ.T, p.1 ∈ cs.map (·.2)) ∧
        (∀ (s : Shared) (u : Value), BindsTo s fd ⟨[u], []⟩ [(x, u)]) ∧ (∀ ns : List Int, ns.length ≤ n → (∀ i ∈ ns, Builtin.Int.intBits i ≤ 1048576) → ∃ μ', r [.scr ns] [] = .ok (.bl true) μ') ∧
        ∀ base : Heap, (K w.params).In base → base.Ns mainGlobals mg → (∃ o, base.get? sysModules = some o) → (∀ p ∈ cs, LamX.TabB base mg p.1 p.2) → FnD κ l.prog w (K w.params) mg base k fa fd [x] r) :
    PySem.W.WalkO q loose XP YP l.row.toRowW d [] (fun f vs => PySem.call f vs) := by
  refine Att.attach_callB hn hdf fun w s₀ s₁ mg mb fa o pm cd doc a vs ns G Y ho hd hcd hmg hobj hints hlen hbits hg => ?_
  have KX := hY w _ Y
  obtain ⟨fd, κ, cs, r, hT, nT, C, hkT, hb, hok, hF⟩ := F w mg fa _ Y KX G.T.g hmg
  obtain ⟨μ', e⟩ := hok ns hlen hbits
  exact law_run KX G.T.g G.T.b G.T.builtins G.T.nolimit (G.T.seer hq) hg hT nT C G.T.bmain hkT hobj hints (Nat.le_trans hlen hn2) hr hF hb e
end Lr


namespace Lr
open PySem PySem.Spec L2
open PyProof.Rows hiding St


def valA (kvs : List (Key × AV)) (k : Key) : Option AV := (kvs.find? fun kv => decide (kv.1 = k)).map (·.2)
def putA (kvs : List (Key × AV)) (k : Key) (v : AV) : List (Key × AV) :=
  if kvs.any fun kv => decide (kv.1 = k) then kvs.map fun kv => if kv.1 = k then (kv.1, v) else kv else kvs ++ [(k, v)]
def mergeA (kvs more : List (Key × AV)) : List (Key × AV) := more.foldl (fun acc kv => putA acc kv.1 kv.2) kvs
section
variable {κ : Kap} {X : Cx} {a b c e o : Expr} {ra rb rc r : AE} {pos p2 pos' : Pos} {k : Nat} {es : List Expr} {rs : AA}
section
variable {K : PySem.W.Frag} {ι : List Addr} {H : Hp}
theorem RelK.length : ∀ {kvs : List (Key × AV)} {vs : List (Key × V)}, RelK K κ ι H kvs vs → kvs.length = vs.length
  | _, _, .nil => rfl
  | _, _, .cons _ r => by rw [List.length_cons, List.length_cons, RelK.length r]
theorem RelK.keys : ∀ {kvs : List (Key × AV)} {vs : List (Key × V)}, RelK K κ ι H kvs vs → kvs.map (·.1) = vs.map (·.1)
  | _, _, .nil => rfl
  | _, _, .cons h r => by rw [List.map_cons, List.map_cons, h.1, RelK.keys r]
theorem RelK.any (k : Key) : ∀ {kvs : List (Key × AV)} {vs : List (Key × V)}, RelK K κ ι H kvs vs → (kvs.any fun kv => decide (kv.1 = k)) = vs.any fun kv => decide (kv.1 = k)
  | _, _, .nil => rfl
  | _, _, .cons h r => by rw [List.any_cons, List.any_cons, h.1, RelK.any k r]
theorem RelK.append : ∀ {kvs ks : List (Key × AV)} {vs us : List (Key × V)}, RelK K κ ι H kvs vs → RelK K κ ι H ks us → RelK K κ ι H (kvs ++ ks) (vs ++ us)
  | _, _, _, _, .nil, g => g
  | _, _, _, _, .cons h r, g => .cons h (RelK.append r g)
theorem RelK.repl {k : Key} {y : AV} {u : V} (ry : Rel K κ ι H y u) : ∀ {kvs : List (Key × AV)} {vs : List (Key × V)}, RelK K κ ι H kvs vs → RelK K κ ι H (kvs.map fun kv => if kv.1 = k then (kv.1, y) else kv) (vs.map fun kv => if kv.1 = k then (kv.1, u) else kv)
  | _, _, .nil => .nil
  | _, _, .cons (a := p) (b := q) h r => by
    rw [List.map_cons, List.map_cons]
    refine .cons ?_ (RelK.repl ry r)
    by_cases e : p.1 = k
    · rw [if_pos e, if_pos (h.1 ▸ e)]
      exact ⟨h.1, ry⟩
    · rw [if_neg e, if_neg (h.1 ▸ e)]
      exact h
theorem RelK.put {kvs : List (Key × AV)} {vs : List (Key × V)} (r : RelK K κ ι H kvs vs) (k : Key) {y : AV} {u : V} (ry : Rel K κ ι H y u) : RelK K κ ι H (putA kvs k y) (putK vs k u) := by
  unfold putA putK
  rw [r.any k]
  split
  · exact r.repl ry
  · exact r.append (.cons ⟨rfl, ry⟩ .nil)
theorem RelK.merge : ∀ {more : List (Key × AV)} {ms : List (Key × V)} {kvs : List (Key × AV)} {vs : List (Key × V)}, RelK K κ ι H more ms → RelK K κ ι H kvs vs → RelK K κ ι H (mergeA kvs more) (mergeK vs ms)
  | _, _, _, _, .nil, r => r
  | _, _, _, _, .cons (a := p) (b := q) h m, r => by
    have z := r.put p.1 h.2
    rw [h.1] at z
    have w := RelK.merge m z
    show RelK K κ ι H (mergeA (putA _ p.1 p.2) _) (mergeK (putK _ q.1 q.2) _)
    rw [h.1]
    exact w
theorem RelK.val {k : Key} : ∀ {kvs : List (Key × AV)} {vs : List (Key × V)} {v : AV}, RelK K κ ι H kvs vs → valA kvs k = some v → ∃ u, valV vs k = some u ∧ Rel K κ ι H v u
  | _, _, _, .nil, e => by cases e
  | p :: kvs, q :: vs, v, .cons h r, e => by
    by_cases z : p.1 = k
    · have e1 : p.2 = v := by simpa [valA, List.find?_cons, z] using e
      subst e1
      exact ⟨q.2, valV_pos (h.1 ▸ z), h.2⟩
    · have e1 : valA kvs k = some v := by simpa [valA, List.find?_cons, z] using e
      obtain ⟨u, e2, r2⟩ := RelK.val r e1
      exact ⟨u, by rw [valV_neg (h.1 ▸ z)]; exact e2, r2⟩
end

def eDNew : AE := fun _ μ => .ok (.loc μ.length) (μ ++ [.dct []])
theorem DE.dnew : DE κ X (.Dict [] [] pos) eDNew := fun W tk => by
  refine ⟨tDNewK, pe_dnewK, fun σ H Q ι ρ μ sr rl h p hn => ?_⟩
  have h2 := (sr.new (o := .dK []) hn).alloc (a := p) (o := .dct []) ⟨[], upd_same, .nil⟩ (sr.notin hn) (by rw [upd_same]; simp) (by rw [upd_same]; trivial)
  refine h (ι ++ [p]) _ (List.prefix_append _ _) ((HM.fresh hn).more hn) h2 _ (.loc ?_)
  rw [← sr.len]
  simp
abbrev AD := Loc → Store → Res (List (Key × AV))
def DD (κ : Kap) (X : Cx) (e : Expr) (r : AD) : Prop := ∀ W, Takes X W → ∃ t, PE X e t ∧ ∀ σ H Q ι ρ μ, SR X.K κ ι μ H → RelS X.K κ ι H ρ σ →
  PG X.K κ W σ ι H (fun kvs ι' H' => ∀ (a : Addr) (vs : List (Key × V)), RelK X.K κ ι' H' kvs vs → H' a = some (.dK vs) → a ∉ ι' → H a = none → Q (.ref a) H') (r ρ μ) → t σ H Q
def eDKeep (r : AD) : AE := fun ρ μ => (r ρ μ).bind fun kvs μ1 => .ok (.loc μ1.length) (μ1 ++ [.dct kvs])
theorem DD.new {r : AD} (h : DD κ X e r) : DE κ X e (eDKeep r) := fun W tk => by
  obtain ⟨t, p, i⟩ := h W tk
  refine ⟨t, p, fun σ H Q ι ρ μ sr rl h => ?_⟩
  refine i σ H _ ι ρ μ sr rl (PG.bind0 h fun xs μ1 ι1 H1 p1 m1 sr1 h1 a vs rv ea hn h0 => ?_)
  have h2 : SR X.K κ (ι1 ++ [a]) (μ1 ++ [.dct xs]) H1 := sr1.alloc ⟨vs, ea, rv⟩ hn (by rw [ea]; simp) (by rw [ea]; trivial)
  refine h1 (ι1 ++ [a]) H1 (p1.trans (List.prefix_append _ _)) (m1.more h0) h2 _ (.loc ?_)
  rw [← sr1.len]
  simp

def stD (μ : Store) : AV → Option (Nat × List (Key × AV))
  | .loc n => match μ[n]? with
    | some (.dct kvs) => some (n, kvs)
    | _ => none
  | _ => none
theorem stD_rel {K : PySem.W.Frag} {ι : List Addr} {H : Hp} {μ : Store} (sr : SR K κ ι μ H) {a : AV} {x : V} {n : Nat} {kvs : List (Key × AV)} (r : Rel K κ ι H a x) (e : stD μ a = some (n, kvs)) : ∃ p vs, x = .ref p ∧ ι[n]? = some p ∧ H p = some (.dK vs) ∧ RelK K κ ι H kvs vs := by
  cases r <;> first | (cases e; done) | skip
  rename_i m p h
  simp only [stD] at e
  split at e
  · rename_i ys q
    cases e
    obtain ⟨vs, e1, r1⟩ := sr.obj _ _ p q h
    exact ⟨p, vs, rfl, h, e1, r1⟩
  · cases e
theorem dset {K : PySem.W.Frag} {ι : List Addr} {H : Hp} {μ : Store} {n : Nat} {p : Addr} {vs ws : List (Key × V)} {ys : List (Key × AV)} (sr : SR K κ ι μ H) (hp : ι[n]? = some p) (e : H p = some (.dK vs)) (rl : RelK K κ ι H ys ws) :
    HM ι H ι (upd H p (.dK ws)) ∧ SR K κ ι (μ.set n (.dct ys)) (upd H p (.dK ws)) := by
  have m : HM ι H ι (upd H p (.dK ws)) := HM.wr (by rw [e]; trivial) (List.mem_of_getElem? hp)
  exact ⟨m, sr.write hp (by rw [e]; trivial) ⟨ws, upd_same, rl.mono (List.prefix_refl _) m.w⟩⟩
theorem ok_dset {K : PySem.W.Frag} {W : WX} {σ : St} {ι : List Addr} {H : Hp} {Q : VK} {v : AV} {x : V} {μ : Store} {n : Nat} {p : Addr} {vs ws : List (Key × V)} {ys : List (Key × AV)} (sr : SR K κ ι μ H) (hp : ι[n]? = some p) (e : H p = some (.dK vs)) (rl : RelK K κ ι H ys ws) (rv : Rel K κ ι H v x)
    (h : PG K κ W σ ι H (CV K κ Q) (.ok v (μ.set n (.dct ys)))) : Q x (upd H p (.dK ws)) := by
  obtain ⟨m, s⟩ := dset sr hp e rl
  exact h ι _ (List.prefix_refl _) m s x (rv.mono (List.prefix_refl _) m)

def sDPutA (o i r : AE) : AS := fun ρ μ => (r ρ μ).out ρ fun v μ1 => (o ρ μ1).out ρ fun l μ2 => (i ρ μ2).out ρ fun j μ3 => match stD μ3 l, keyOf j with
  | some (n, kvs), some k => if kvs.length < 16777216 then .nx ρ (μ3.set n (.dct (putA kvs k v))) else .bad
  | _, _ => .bad
theorem DS.dput {i : Expr} (cl : Cl X k) (ho : DE κ X o ra) (hi : DE κ X i rb) (hv : DE κ X a rc) (hs : swapsWith a (some (.Subscript o i pos')) pos.line X.env = pure false := by rfl) : DS κ X (.Assign [.Subscript o i pos'] a pos) (sDPutA ra rb rc) := fun W tk => by
  obtain ⟨t1, p1, i1⟩ := ho W tk
  obtain ⟨t2, p2, i2⟩ := hi W tk
  obtain ⟨t3, p3, i3⟩ := hv W tk
  refine ⟨_, ps_dput (by have := cl.room.un; omega) p1 p2 p3 hs, fun D σ H ι ρ μ sr rl h => ?_⟩
  refine i3 σ H _ ι ρ μ sr rl (PO'.bind rl h fun v μ1 ι1 H1 q1 m1 sr1 h1 vv rv => ?_)
  refine i1 σ H1 _ ι1 ρ μ1 sr1 (rl.mono q1 m1) (PO'.bind (rl.mono q1 m1) h1 fun l μ2 ι2 H2 q2 m2 sr2 h2 lv rlv => ?_)
  have rl2 := (rl.mono q1 m1).mono q2 m2
  refine i2 σ H2 _ ι2 ρ μ2 sr2 rl2 (PO'.bind rl2 h2 fun j μ3 ι3 H3 q3 m3 sr3 h3 jv rj => ?_)
  split at h3
  · rename_i n kvs kk e1 ek
    by_cases hz : kvs.length < 16777216
    · rw [if_pos hz] at h3
      obtain ⟨p0, vs, rfl, hq, e2, r2⟩ := stD_rel sr3 (rlv.mono q3 m3) e1
      have ejv := keyOf_kV rj ek
      subst ejv
      have rv3 := (rv.mono q2 m2).mono q3 m3
      refine ⟨p0, _, rfl, DPut.k e2 (by rw [line16, ← r2.length]; exact hz), ?_⟩
      obtain ⟨mm, s⟩ := dset sr3 hq e2 (r2.put kk rv3)
      exact h3 ι3 _ σ (List.prefix_refl _) mm s ((rl2.mono q3 m3).mono (List.prefix_refl _) mm)
    · rw [if_neg hz] at h3
      exact False.elim h3
  · exact False.elim h3

def eDGet (o i : AE) : AE := fun ρ μ => (o ρ μ).bind fun l μ2 => (i ρ μ2).bind fun j μ3 => match stD μ3 l, keyOf j with
  | some (_, kvs), some k => match valA kvs k with
    | some v => .ok v μ3
    | none => .bad
  | _, _ => .bad
theorem DE.dget {i : Expr} (cl : Cl X k) (ho : DE κ X o ra) (hi : DE κ X i rb) (hs : NoSl i := by intro _ _; rfl) : DE κ X (.Subscript o i pos) (eDGet ra rb) := fun W tk => by
  obtain ⟨t1, p1, i1⟩ := ho W tk
  obtain ⟨t2, p2, i2⟩ := hi W tk
  refine ⟨_, pe_dget (by have := cl.room.un; omega) p1 p2 hs, fun σ H Q ι ρ μ sr rl h => ?_⟩
  refine i1 σ H _ ι ρ μ sr rl (PG.bind h fun l μ2 ι2 H2 q2 m2 sr2 h2 lv rlv => ?_)
  refine i2 σ H2 _ ι2 ρ μ2 sr2 (rl.mono q2 m2) (PG.bind h2 fun j μ3 ι3 H3 q3 m3 sr3 h3 jv rj => ?_)
  split at h3
  · rename_i n kvs kk e1 ek
    obtain ⟨p0, vs, rfl, hq, e2, r2⟩ := stD_rel sr3 (rlv.mono q3 m3) e1
    have ejv := keyOf_kV rj ek
    subst ejv
    split at h3
    · rename_i v ev
      obtain ⟨u, eu, ru⟩ := r2.val ev
      refine ⟨p0, u, rfl, ?_, ok1 sr3 h3 ru⟩
      rw [← eu]
      exact DGet.k e2
    · exact False.elim h3
  · exact False.elim h3

def rUpd : V → List V → Hp → VK → Prop := fun x vs H Q => ∃ l b xs zs, x = .ref l ∧ vs = [.ref b] ∧ l ≠ b ∧ H l = some (.dK xs) ∧ H b = some (.dK zs) ∧ xs.length + zs.length ≤ sizeLine ∧ Q .non (upd H l (.dK (mergeK xs zs)))
theorem mt_dupd : MtR X "dict.update" rUpd := by
  intro pins s σ H x vs v us Q I rx rv h
  obtain ⟨l, b, xs, zs, rfl, rfl, hne, hH, hB, hz, q⟩ := h
  cases rx
  obtain ⟨u, rfl, ru⟩ := rv.one
  cases ru
  obtain ⟨z1, hs1, ks1, rk1, d1⟩ := dk_of I.hok hH
  obtain ⟨z2, hs2, ks2, rk2, d2⟩ := dk_of I.hok hB
  refine call_meetsIn F.slot_dict_update d1.typeIs F.entry_dict_update (F.args_dict_update_2 _ _) (meets_dict_update (mixKind X.prog X.w) l b hne hs2) ⟨ks1, ks2, d1, d2, by rw [← rk1.length, ← rk2.length]; exact hz, fun h' d1' d2' sb => ?_⟩
  refine ⟨.non, _, d_write I (by rw [hH]; trivial) sb ?_ ?_, rfl, q⟩
  · obtain ⟨o, es, n, eo, _⟩ := d1'
    exact ⟨o, eo⟩
  · exact dk_new (by have := length_mergeK zs xs; omega) hs1 (KV.merge rk2 rk1) d1'
end
end Lr


namespace Lr
open PySem PySem.Spec L2
open PyProof.Rows hiding St
section
variable {κ : Kap} {X : Cx} {a b c e o : Expr} {ra rb rc r : AE} {pos p2 pos' : Pos} {k : Nat} {es : List Expr} {rs : AA}
def isDc (μ : Store) (v : AV) : Bool := (stD μ v).isSome
theorem dic_ty {K : PySem.W.Frag} {H : Hp} {x : V} {vs : List (Key × V)} {p : Addr} (e : x = .ref p) (h : H p = some (.dK vs)) : tyV K "dict" x H := by
  subst e
  exact .inr (.inr (.inl ⟨rfl, .inl ⟨vs, h⟩⟩))

def eUpd (o a : AE) : AE := fun ρ μ => (o ρ μ).bind fun l μ1 => if isDc μ1 l then (a ρ μ1).bind fun v μ2 => match stD μ2 l, stD μ2 v with
  | some (n, kvs), some (m, more) => if n ≠ m ∧ kvs.length + more.length ≤ 16777216 then .ok .non (μ2.set n (.dct (mergeA kvs more))) else .bad
  | _, _ => .bad else .bad
theorem DE.upd {apos cpos : Pos} (ho : DE κ X o ra) (ha : DE κ X a rb)
    (hbase : attributeBase o "update" X.env (eval o X.env) = eval o X.env := by rfl)
    (hfew : ((backTo cpos (starEach [a] X.env)).all (fun x => !x.1) && (backToKw cpos (keywordEach [] X.env)).all (fun x => x.1.isSome) && decide ([a].length + ([] : List Keyword).length + (if ([] : List Keyword).isEmpty then 0 else 1) < 30)) = true := by rfl)
    (hline : (apos.endLine == cpos.line) = true := by rfl) (hs : starEach [a] X.env = (false, eval a X.env) :: starEach [] X.env := by rfl) (hplain : (backTo cpos (starEach [] X.env)).any (·.1) = false := by rfl) :
    DE κ X (.Call (.Attribute o "update" apos) [a] [] cpos) (eUpd ra rb) := fun W tk => by
  obtain ⟨t, p, i⟩ := ho W tk
  obtain ⟨u, q, j⟩ := ha W tk
  refine ⟨_, pe_bm PySem.F.plainAttrs_dict PySem.F.slot_dict_update PySem.F.type_dict_update mt_dupd p (pa_cons q pa_nil hs) hbase hfew hline hs hplain, fun σ H Q ι ρ μ sr rl h => ?_⟩
  refine i σ H _ ι ρ μ sr rl (PG.bind h fun l μ1 ι1 H1 p1 m1 sr1 h1 lv rlv => ?_)
  by_cases hl : isDc μ1 l = true
  · rw [if_pos hl] at h1
    obtain ⟨⟨n0, xs0⟩, e0⟩ := Option.isSome_iff_exists.mp hl
    obtain ⟨p0, vs0, ex, _, h0, _⟩ := stD_rel sr1 rlv e0
    refine ⟨dic_ty ex h0, ?_⟩
    refine j σ H1 _ ι1 ρ μ1 sr1 (rl.mono p1 m1) (PG.bind h1 fun v μ2 ι2 H2 p2 m2 sr2 h2 vv rv => ?_)
    show rUpd _ [vv] H2 Q
    split at h2
    · rename_i n kvs m more e1 e3
      by_cases hz : n ≠ m ∧ kvs.length + more.length ≤ 16777216
      · rw [if_pos hz] at h2
        obtain ⟨q1, vs, rfl, hq, e2, r2⟩ := stD_rel sr2 (rlv.mono p2 m2) e1
        obtain ⟨q2, ws, rfl, hq2, e4, r4⟩ := stD_rel sr2 rv e3
        refine ⟨q1, q2, vs, ws, rfl, rfl, fun z => ?_, e2, e4, by rw [line16, ← r2.length, ← r4.length]; exact hz.2, ok_dset sr2 hq e2 (r4.merge r2) .non h2⟩
        subst z
        exact hz.1 (L2.nd_ix sr2.nd hq hq2)
      · rw [if_neg hz] at h2
        exact False.elim h2
    · exact False.elim h2
  · rw [if_neg hl] at h1
    exact False.elim h1


section
variable {kx vx tg iter : Expr} {ifs : List Expr} {scope : Scope} {own : List (Str × Nat)} {it : AI} {is : List Nat} {g : AG} {tt : AT} {tk tv : AE}
def dcF (g : AG) (tt : AT) (tk tv : AE) (src : Src) : Nat → Nat → Loc → List (Key × AV) → Store → Res (List (Key × AV))
  | 0, _, _, _, _ => .bad
  | m + 1, i, ρ, acc, μ => match src.at i μ with
    | none => .bad
    | some none => .ok acc μ
    | some (some v) => match g v ρ with
      | none => .bad
      | some ρ1 => (tt ρ1 μ).nox.bind fun b μ1 => if b then (tk ρ1 μ1).nox.bind fun y μ2 => (tv ρ1 μ2).nox.bind fun z μ3 => match keyOf y with
          | some k => if acc.length < 16777216 then dcF g tt tk tv src m (i + 1) ρ (putA acc k z) μ3 else .bad
          | none => .bad
        else dcF g tt tk tv src m (i + 1) ρ acc μ1
def aDc (it : AI) (vs : List Nat) (g : AG) (tt : AT) (tk tv : AE) : AD := fun ρ μ => (it ρ μ).bind fun src μ1 => dcF g tt tk tv src FUEL 0 (wipeA ρ vs) [] μ1
theorem im_dc {wi : TI} {W : WX} {vs : List Nat} (hv : ∀ i ∈ is, i ∈ vs) (hw : ∀ (σ : St) (H : Hp) (R : It → Hp → Prop) (ι : List Addr) (ρ : Loc) (μ : Store), SR X.K κ ι μ H → RelS X.K κ ι H ρ σ → PG X.K κ W σ ι H (fun src ι' H' => ∀ J, JR X.K κ ι' H' src J → R J H') (it ρ μ) → wi σ H R) :
    ∀ σ H Q ι ρ μ, SR X.K κ ι μ H → RelS X.K κ ι H ρ σ → PG X.K κ W σ ι H (fun kvs ι' H' => ∀ (a : Addr) (xs : List (Key × V)), RelK X.K κ ι' H' kvs xs → H' a = some (.dK xs) → a ∉ ι' → H a = none → Q (.ref a) H') (aDc it vs g tt tk tv ρ μ) →
      tDc wi (kG X.K κ is g) (kT X.K κ W0 tt) (kE X.K κ W0 tk) (kE X.K κ W0 tv) vs σ H Q := fun σ H Q ι ρ μ sr rl h => by
  refine hw σ H _ ι ρ μ sr rl (PG.bind0 h fun src μ1 ι1 H1 p1 m1 sr1 h1 J hJ D hD => ?_)
  have hD0 : H D = none := by
    cases e : H D with
    | none => rfl
    | some u =>
      by_cases z : D ∈ ι
      · exact absurd hD (sr1.on D (p1.subset z))
      · exact absurd hD (m1.live z e)
  refine ⟨fun i m H' => ∃ (ι' : List Addr) (acc : List (Key × AV)) (av : List (Key × V)) (μ' : Store), HM ι1 H1 ι' H' ∧ SR X.K κ ι' μ' H' ∧ D ∉ ι' ∧ H' D = some (.dK av) ∧ RelK X.K κ ι' H' acc av ∧
    PG X.K κ W σ ι H (fun kvs ι' H' => ∀ (a : Addr) (xs : List (Key × V)), RelK X.K κ ι' H' kvs xs → H' a = some (.dK xs) → a ∉ ι' → H a = none → Q (.ref a) H') (dcF g tt tk tv src m i (wipeA ρ vs) acc μ'),
    ⟨FUEL, ι1, [], [], μ1, HM.fresh hD, sr1.new hD, sr1.notin hD, upd_same, .nil, h1⟩, ?_⟩
  rintro i m H' ⟨ι', acc, av, μ', hm, sr', hn, eD, ra, h'⟩
  cases m with
  | zero => exact False.elim h'
  | succ m =>
    have hj := hJ i ι' H' μ' hm.v sr'
    unfold dcF at h'
    cases e : src.at i μ' with
    | none => rw [e] at h'; exact False.elim h'
    | some o =>
      rw [e] at h' hj
      cases o with
      | none => exact .inl ⟨hj, h' ι' H' (p1.trans hm.pre) (m1.trans hm) sr' D av ra eD hn hD0⟩
      | some v =>
        simp only at h' hj
        cases eg : g v (wipeA ρ vs) with
        | none => rw [eg] at h'; exact False.elim h'
        | some ρ1 =>
          rw [eg] at h'
          simp only at h'
          refine .inr ⟨hj.1, fun H2 => ∃ (ι2 : List Addr) (acc2 : List (Key × AV)) (av2 : List (Key × V)) (μ2 : Store), HM ι1 H1 ι2 H2 ∧ SR X.K κ ι2 μ2 H2 ∧ D ∉ ι2 ∧ H2 D = some (.dK av2) ∧ RelK X.K κ ι2 H2 acc2 av2 ∧
            PG X.K κ W σ ι H (fun kvs ι' H' => ∀ (a : Addr) (xs : List (Key × V)), RelK X.K κ ι' H' kvs xs → H' a = some (.dK xs) → a ∉ ι' → H a = none → Q (.ref a) H') (dcF g tt tk tv src m (i + 1) (wipeA ρ vs) acc2 μ2), fun H2 z => ⟨m, Nat.lt_succ_self _, z⟩, fun x H2 hy => ?_⟩
          obtain ⟨m2, sr2, rx⟩ := hj.2 x H2 hy
          have rw2 : RelS X.K κ ι' H2 (wipeA ρ vs) (L2.wipe σ vs) := ((rl.mono p1 m1).mono hm.pre hm).wipe vs |>.mono (List.prefix_refl _) m2
          refine ⟨ι', v, wipeA ρ vs, ρ1, rw2, rx, eg, fun σ2 rl2 hwp => ⟨?_, ?_⟩⟩
          · have z := hwp vs hv
            rw [z]
            exact wipe_twice
          · refine ⟨ι', ρ1, μ', sr2, rl2, PG.nox (PG.bindF (m1.trans (hm.trans m2)) h' fun b μ3 ι3 H3 p3 m3 sr3 h3 => ?_)⟩
            have hm3 := (hm.trans m2).trans m3
            have eD2 : H2 D = some (.dK av) := m2.oth D _ hn eD
            have eD3 : H3 D = some (.dK av) := m3.oth D _ hn eD2
            have hn3 : D ∉ ι3 := fun z => by
              have := m3.new D z hn
              rw [eD2] at this; cases this
            cases b with
            | false =>
              refine iteF ⟨ι3, acc, av, μ3, hm3, sr3, hn3, eD3, (ra.mono (List.prefix_refl _) m2.w).mono p3 m3.w, ?_⟩
              simpa using h3
            | true =>
              refine iteT ⟨ι3, ρ1, μ3, sr3, rl2.mono p3 m3, PG.nox (PG.bindF (m1.trans hm3) h3 fun y μ4 ι4 H4 p4 m4 sr4 h4 yv ry => ?_)⟩
              have eD4 : H4 D = some (.dK av) := m4.oth D _ hn3 eD3
              have hn4 : D ∉ ι4 := fun z => by
                have := m4.new D z hn3
                rw [eD3] at this; cases this
              have hm4 := hm3.trans m4
              refine ⟨ι4, ρ1, μ4, sr4, (rl2.mono p3 m3).mono p4 m4, PG.nox (PG.bindF (m1.trans hm4) h4 fun z μ5 ι5 H5 p5 m5 sr5 h5 zv rz => ?_)⟩
              have eD5 : H5 D = some (.dK av) := m5.oth D _ hn4 eD4
              have hn5 : D ∉ ι5 := fun z => by
                have := m5.new D z hn4
                rw [eD4] at this; cases this
              have hm5 := hm4.trans m5
              split at h5
              · rename_i kk ek
                by_cases hz : acc.length < 16777216
                · rw [if_pos hz] at h5
                  have ra5 := (((ra.mono (List.prefix_refl _) m2.w).mono p3 m3.w).mono p4 m4.w).mono p5 m5.w
                  have mu : Mut (H5 D) := by rw [eD5]; trivial
                  have m6 : HM ι1 H1 ι5 (upd H5 D (.dK (putK av kk zv))) := hm5.mine mu (.inl hD)
                  have w6 : HW H5 (upd H5 D (.dK (putK av kk zv))) := (HM.mine (HM.refl (ι := [D]) H5) mu (.inr (by simp))).w
                  exact ⟨av, kk, keyOf_kV ry ek, eD5, by rw [line16, ← ra5.length]; exact hz, ι5, putA acc kk z, putK av kk zv, μ5, m6, sr5.other w6 hn5 (by rw [eD5]; trivial), hn5, upd_same, (ra5.put kk rz).mono (List.prefix_refl _) w6, h5⟩
                · rw [if_neg hz] at h5
                  exact False.elim h5
              · exact False.elim h5
theorem DD.dc (cl : Cl X k) (hi : DI κ X tg iter it) (ok : BlkOk X.N X.env.scope scope own) (hv : ∀ i ∈ is, i ∈ own.map (·.2))
    (hg : ∀ (s : Shared) (H : Hp) (C : Addr) (cl : List (Str × Addr)) (fp : List Addr), DG κ (X.blk s H scope (compEnvC scope cl C X.env) fp) tg is g) (ht : ∀ (s : Shared) (H : Hp) (C : Addr) (cl : List (Str × Addr)) (fp : List Addr), PTs (X.blk s H scope (compEnvC scope cl C X.env) fp) ifs (kT X.K κ W0 tt))
    (hk : ∀ (s : Shared) (H : Hp) (C : Addr) (cl : List (Str × Addr)) (fp : List Addr), DE κ (X.blk s H scope (compEnvC scope cl C X.env) fp) kx tk)
    (he : ∀ (s : Shared) (H : Hp) (C : Addr) (cl : List (Str × Addr)) (fp : List Addr), DE κ (X.blk s H scope (compEnvC scope cl C X.env) fp) vx tv) (hs : ∀ x, foldedSetIterable iter X.env x = pure x := by intro _; rfl) :
    DD κ X (.DictComp kx vx [⟨tg, iter, ifs, 0⟩] scope pos) (aDc it (own.map (·.2)) g tt tk tv) := fun W tk0 => by
  obtain ⟨wi, p0, i0⟩ := hi W tk0
  exact ⟨_, pe_dc cl.calm cl.nd p0 ok (fun s H C cl fp => (hg s H C cl fp).kan) ht (fun s H C cl fp => (hk s H C cl fp).kan takes0) (fun s H C cl fp => (he s H C cl fp).kan takes0) hs, im_dc hv i0⟩
theorem DD.dcc (cl : Cl X k) (hi : DI κ X tg iter it) (ok : BlkOk X.N X.env.scope scope own) (hv : ∀ i ∈ is, i ∈ own.map (·.2))
    (hg : ∀ (s : Shared) (H : Hp) (C : Addr) (d : List (Str × Addr)) (fp : List Addr), Cl (X.blk s H scope (compEnvC scope d C X.env) fp) k → DG κ (X.blk s H scope (compEnvC scope d C X.env) fp) tg is g)
    (ht : ∀ (s : Shared) (H : Hp) (C : Addr) (d : List (Str × Addr)) (fp : List Addr), Cl (X.blk s H scope (compEnvC scope d C X.env) fp) k → PTs (X.blk s H scope (compEnvC scope d C X.env) fp) ifs (kT X.K κ W0 tt))
    (hk : ∀ (s : Shared) (H : Hp) (C : Addr) (d : List (Str × Addr)) (fp : List Addr), Cl (X.blk s H scope (compEnvC scope d C X.env) fp) k → DE κ (X.blk s H scope (compEnvC scope d C X.env) fp) kx tk)
    (he : ∀ (s : Shared) (H : Hp) (C : Addr) (d : List (Str × Addr)) (fp : List Addr), Cl (X.blk s H scope (compEnvC scope d C X.env) fp) k → DE κ (X.blk s H scope (compEnvC scope d C X.env) fp) vx tv) (hs : ∀ x, foldedSetIterable iter X.env x = pure x := by intro _; rfl) :
    DD κ X (.DictComp kx vx [⟨tg, iter, ifs, 0⟩] scope pos) (aDc it (own.map (·.2)) g tt tk tv) :=
  DD.dc cl hi ok hv (fun s H C d fp => hg s H C d fp (cl.blk s H _ _ fp)) (fun s H C d fp => ht s H C d fp (cl.blk s H _ _ fp)) (fun s H C d fp => hk s H C d fp (cl.blk s H _ _ fp)) (fun s H C d fp => he s H C d fp (cl.blk s H _ _ fp)) hs
end
end
end Lr


namespace Lr
open PySem PySem.Spec L2
open PyProof.Rows hiding St
section
variable {κ : Kap} {X : Cx} {a b c e o : Expr} {ra rb rc r : AE} {pos p2 pos' : Pos} {k : Nat} {es : List Expr} {rs : AA}

def intsOf : List AV → Option (List Int)
  | [] => some []
  | .int b :: r => (intsOf r).map (b :: ·)
  | _ => none
theorem ints_map : ∀ {xs : List AV} {bs : List Int}, intsOf xs = some bs → xs = bs.map AV.int
  | [], bs, e => by cases e; rfl
  | x :: xs, bs, e => by
    cases x <;> simp only [intsOf] at e <;> first | (cases e; done) | skip
    cases h : intsOf xs with
    | none => rw [h] at e; cases e
    | some cs =>
      rw [h] at e
      cases e
      rw [List.map_cons, ints_map h]
theorem ints_rel {K : PySem.W.Frag} {ι : List Addr} {H : Hp} : ∀ {ns : List Int} {vs : List V}, RelL K κ ι H (ns.map AV.int) vs → vs = ns.map V.int
  | [], _, h => by cases h; rfl
  | n :: ns, _, h => by
    cases h with
    | cons h1 h2 =>
      cases h1
      rw [ints_rel h2]
      rfl
def gSum : Fn := fun as μ => match as with
  | [x] => match lsOf μ x with
    | some xs => match intsOf xs with
      | some ns => .ok (.int ns.sum) μ
      | none => .bad
    | none => .bad
  | _ => .bad
theorem ca_sum (cl : Cl X k) : CallA κ X (.builtin "sum") gSum := fun W tk pins s σ H xs us Q I r hh => by
  obtain ⟨σ0, ι, μ, as, sr, rl, h⟩ := hh
  unfold gSum at h
  split at h <;> first | exact False.elim h | skip
  split at h <;> first | exact False.elim h | skip
  rename_i x _ ys e1
  split at h <;> first | exact False.elim h | skip
  rename_i ns e2
  cases rl with
  | cons r1 r2 =>
    cases r2
    obtain ⟨p, vs, rfl, hq, rl⟩ := ls_rel sr r1 e1
    have e3 := ints_map e2
    subst e3
    have e4 := ints_rel rl
    subst e4
    exact cr_sum cl.calm pins s σ H _ us Q I r ⟨p, ns, rfl, hq, ok1 sr h (.int _)⟩

def leS (a b : Str) : Bool := !ltCps b.cps.toList a.cps.toList
theorem leS_iff {a b : Str} : leS a b = true ↔ a.cps.toList ≤ b.cps.toList := by
  unfold leS
  rw [ltCps_eq, Bool.not_eq_true', decide_eq_false_iff_not]
  exact Iff.rfl
theorem leS_trans (a b c : Str) (h : leS a b = true) (g : leS b c = true) : leS a c = true := leS_iff.mpr (List.le_trans (leS_iff.mp h) (leS_iff.mp g))
theorem leS_total (a b : Str) : (leS a b || leS b a) = true := by
  rw [Bool.or_eq_true]
  rcases List.le_total a.cps.toList b.cps.toList with h | h
  · exact .inl (leS_iff.mpr h)
  · exact .inr (leS_iff.mpr h)
theorem leS_anti {a b : Str} (h : leS a b = true) (g : leS b a = true) : a = b := by
  have e := List.le_antisymm (leS_iff.mp h) (leS_iff.mp g)
  cases a
  cases b
  congr
  exact Array.toList_inj.mp e
def sortS (ks : List Str) : List Str := ks.mergeSort leS
theorem rising_pw : ∀ (p : Str) (l : List Str), risingS p l = true → (p :: l).Pairwise (fun a b => leS a b = true)
  | p, [], _ => by simp
  | p, x :: l, h => by
    simp only [risingS, Bool.and_eq_true] at h
    have ih := rising_pw x l h.2
    refine List.pairwise_cons.mpr ⟨fun y hy => ?_, ih⟩
    rcases List.mem_cons.mp hy with hy | hy
    · rw [hy]
      exact h.1
    · exact leS_trans p x y h.1 ((List.pairwise_cons.mp ih).1 y hy)
theorem sorted_pw : ∀ {l : List Str}, sortedS l = true → l.Pairwise (fun a b => leS a b = true)
  | [], _ => .nil
  | x :: l, h => rising_pw x l h
theorem sorted_eq {ys ks : List Str} (h : ys.Perm ks) (g : sortedS ys = true) : ys = sortS ks :=
  List.Perm.eq_of_pairwise (le := fun a b => leS a b = true) (fun _ _ _ _ h g => leS_anti h g) (sorted_pw g) (List.pairwise_mergeSort leS_trans leS_total ks) (h.trans (List.mergeSort_perm ks leS).symm)
def strsOf : List Key → Option (List Str)
  | [] => some []
  | .inr x :: r => (strsOf r).map (x :: ·)
  | _ => none
theorem strs_map : ∀ {ks : List Key} {xs : List Str}, strsOf ks = some xs → ks = xs.map Sum.inr
  | [], xs, e => by cases e; rfl
  | k :: ks, xs, e => by
    cases k <;> simp only [strsOf] at e <;> first | (cases e; done) | skip
    cases h : strsOf ks with
    | none => rw [h] at e; cases e
    | some cs =>
      rw [h] at e
      cases e
      rw [List.map_cons, strs_map h]
theorem strs_rel {K : PySem.W.Frag} {ι : List Addr} {H : Hp} : ∀ (ns : List Str), RelL K κ ι H (ns.map AV.str) (ns.map V.str)
  | [] => .nil
  | n :: ns => .cons (.str n) (strs_rel ns)

def gSortD : FnN := fun as μ => match as with
  | [x] => match stD μ x with
    | some (_, kvs) => match strsOf (kvs.map (·.1)) with
      | some ks => if ks.length < 64 then .ok ((sortS ks).map AV.str) μ else .bad
      | none => .bad
    | none => .bad
  | _ => .bad
theorem cn_sortD (cl : Cl X k) : CallN κ X (.builtin "sorted") gSortD := fun W tk pins s σ H xs us Q I r hh => by
  obtain ⟨σ0, ι₀, H₀, μ₀, ι, μ, as, sr₀, m, sr, rl, h⟩ := hh
  unfold gSortD at h
  split at h <;> first | exact False.elim h | skip
  split at h <;> first | exact False.elim h | skip
  rename_i x _ n kvs e1
  split at h <;> first | exact False.elim h | skip
  rename_i ks e2
  cases rl with
  | cons r1 r2 =>
    cases r2
    obtain ⟨p, vs, rfl, hq, he, rk⟩ := stD_rel sr r1 e1
    by_cases hz : ks.length < 64
    · rw [if_pos hz] at h
      have e3 := strs_map e2
      refine call_sortedD cl.calm pins s σ H _ us Q I r ⟨p, vs, ks, rfl, .inl he, by rw [← rk.keys]; exact e3, hz, fun ys q hp hs hn => ?_⟩
      rw [sorted_eq hp hs]
      exact okNew sr₀ sr m h (strs_rel _) hn
    · rw [if_neg hz] at h
      exact False.elim h

def ePop0 (o : AE) : AE := fun ρ μ => (o ρ μ).bind fun l μ1 => match stL μ1 l with
  | some (n, xs) => match xs[xs.length - 1]? with
    | some y => .ok y (μ1.set n (.lst xs.dropLast))
    | none => .bad
  | none => .bad
theorem RelL.dropLast {K : PySem.W.Frag} {ι : List Addr} {H : Hp} {xs : List AV} {vs : List V} (r : RelL K κ ι H xs vs) : RelL K κ ι H xs.dropLast vs.dropLast := by
  rw [List.dropLast_eq_take, List.dropLast_eq_take, r.length]
  exact r.take _
theorem RelL.erase {K : PySem.W.Frag} {ι : List Addr} {H : Hp} {xs : List AV} {vs : List V} (r : RelL K κ ι H xs vs) (j : Nat) : RelL K κ ι H (xs.eraseIdx j) (vs.eraseIdx j) := by
  rw [List.eraseIdx_eq_take_drop_succ, List.eraseIdx_eq_take_drop_succ]
  exact (r.take _).append (r.drop _)
theorem DE.pop0 {apos cpos : Pos} (ho : DE κ X o ra) (hbase : attributeBase o "pop" X.env (eval o X.env) = eval o X.env := by rfl) (hline : (apos.endLine == cpos.line) = true := by rfl) :
    DE κ X (.Call (.Attribute o "pop" apos) [] [] cpos) (ePop0 ra) := fun W tk => by
  obtain ⟨t, p, i⟩ := ho W tk
  refine ⟨_, pe_bm0 PySem.F.plainAttrs_list PySem.F.slot_list_pop PySem.F.type_list_pop mt_pop p hbase hline, fun σ H Q ι ρ μ sr rl h => ?_⟩
  refine i σ H _ ι ρ μ sr rl (PG.bind h fun l μ1 ι1 H1 p1 m1 sr1 h1 lv rlv => ?_)
  split at h1
  · rename_i n xs e1
    obtain ⟨p0, vs, rfl, hq, e2, r2⟩ := stL_rel sr1 rlv e1
    split at h1
    · rename_i y ey
      refine ⟨lst_ty (ι := ι1) (ι' := ι1) (H' := H1) rfl (.inl (.inl e2)), ?_⟩
      obtain ⟨u, eu, ru⟩ := r2.get ey
      exact ⟨p0, vs, u, rfl, rfl, e2, by rw [← r2.length]; exact eu, ok_lset sr1 hq e2 r2.dropLast ru h1⟩
    · exact False.elim h1
  · exact False.elim h1
def ePop1 (o a : AE) : AE := fun ρ μ => (o ρ μ).bind fun l μ1 => if isLs μ1 l then (a ρ μ1).bind fun v μ2 => match stL μ2 l, v with
  | some (n, xs), .int i => match ixN xs.length i with
    | some j => if xs.length ≤ 16777216 then match xs[j]? with
      | some y => .ok y (μ2.set n (.lst (xs.eraseIdx j)))
      | none => .bad else .bad
    | none => .bad
  | _, _ => .bad else .bad
theorem DE.pop1 {apos cpos : Pos} (ho : DE κ X o ra) (ha : DE κ X a rb)
    (hbase : attributeBase o "pop" X.env (eval o X.env) = eval o X.env := by rfl)
    (hfew : ((backTo cpos (starEach [a] X.env)).all (fun x => !x.1) && (backToKw cpos (keywordEach [] X.env)).all (fun x => x.1.isSome) && decide ([a].length + ([] : List Keyword).length + (if ([] : List Keyword).isEmpty then 0 else 1) < 30)) = true := by rfl)
    (hline : (apos.endLine == cpos.line) = true := by rfl) (hs : starEach [a] X.env = (false, eval a X.env) :: starEach [] X.env := by rfl) (hplain : (backTo cpos (starEach [] X.env)).any (·.1) = false := by rfl) :
    DE κ X (.Call (.Attribute o "pop" apos) [a] [] cpos) (ePop1 ra rb) := fun W tk => by
  obtain ⟨t, p, i⟩ := ho W tk
  obtain ⟨u, q, j⟩ := ha W tk
  refine ⟨_, pe_bm PySem.F.plainAttrs_list PySem.F.slot_list_pop PySem.F.type_list_pop mt_popAt p (pa_cons q pa_nil hs) hbase hfew hline hs hplain, fun σ H Q ι ρ μ sr rl h => ?_⟩
  refine i σ H _ ι ρ μ sr rl (PG.bind h fun l μ1 ι1 H1 p1 m1 sr1 h1 lv rlv => ?_)
  by_cases hl : isLs μ1 l = true
  · rw [if_pos hl] at h1
    obtain ⟨xs0, e0⟩ := Option.isSome_iff_exists.mp hl
    obtain ⟨p0, vs0, ex, h0, _⟩ := ls_rel sr1 rlv e0
    refine ⟨lst_ty (ι := ι1) (ι' := ι1) (H' := H1) ex h0, ?_⟩
    refine j σ H1 _ ι1 ρ μ1 sr1 (rl.mono p1 m1) (PG.bind h1 fun v μ2 ι2 H2 p2 m2 sr2 h2 vv rv => ?_)
    show rPopAt _ [vv] H2 Q
    split at h2
    · rename_i n xs ii e1
      cases rv
      split at h2
      · rename_i jj ej
        by_cases hz : xs.length ≤ 16777216
        · rw [if_pos hz] at h2
          split at h2
          · rename_i y ey
            obtain ⟨q1, vs, rfl, hq, e2, r2⟩ := stL_rel sr2 (rlv.mono p2 m2) e1
            obtain ⟨z1, z2, z3, z4⟩ := ixN_seq ej
            obtain ⟨u, eu, ru⟩ := r2.get ey
            exact ⟨q1, vs, ii, jj, u, rfl, rfl, e2, by omega, by omega, by rw [← r2.length]; exact z1, eu, ok_lset sr2 hq e2 (r2.erase jj) ru h2⟩
          · exact False.elim h2
        · rw [if_neg hz] at h2
          exact False.elim h2
      · exact False.elim h2
    · exact False.elim h2
  · rw [if_neg hl] at h1
    exact False.elim h1
end
end Lr


namespace Lr
open PySem PySem.Spec L2
open PyProof.Rows hiding St
section
variable {κ : Kap} {X : Cx} {k : Nat}
theorem ps_low {st : Stmt} {t : TS} (c : Cl X k) (h : PS X st t) : PS X st (fun D σ H => t { D with nx := fun σ1 H1 => (∀ p u, H1 p = some u → p ≠ sysModules) → D.nx σ1 H1 } σ H) := by
  refine ⟨fun pins s σ H D I hw => ?_⟩
  refine thn (h.run pins s σ H _ I hw) fun f s1 hf => ?_
  cases f with
  | next =>
    obtain ⟨σ1, H1, I1, q⟩ := hf
    refine ⟨σ1, H1, I1, q fun p u hp z => ?_⟩
    subst z
    obtain ⟨o, ho⟩ := c.sm
    have := (I1.bs _ o ho).2
    rw [hp] at this
    cases this
  | brk => exact hf
  | cont => exact hf
  | ret u => exact hf
theorem ps_fz {st : Stmt} {t : TS} (h : PS X st t) : PS X st (fun D σ H => t { D with nx := fun σ1 H1 => ∃ p vs, H1 p = some (.lst vs) ∧ ∀ o, D.nx σ1 (upd H1 p (.frz o (.lst vs))) } σ H) := by
  refine ⟨fun pins s σ H D I hw => ?_⟩
  refine thn (h.run pins s σ H _ I hw) fun f s1 hf => ?_
  cases f with
  | next =>
    obtain ⟨σ1, H1, I1, p, vs, ep, q⟩ := hf
    obtain ⟨o, I2⟩ := inv_frz I1 ep
    exact ⟨σ1, _, I2, q o⟩
  | brk => exact hf
  | cont => exact hf
  | ret u => exact hf
theorem RelS.monoW {K : PySem.W.Frag} {ι ι' : List Addr} {H H' : Hp} (p : ι <+: ι') (m : HW H H') {ρ : Loc} {σ : St} (r : RelS K κ ι H ρ σ) : RelS K κ ι' H' ρ σ :=
  ⟨r.1, fun i v e => let ⟨x, e1, r1⟩ := r.2 i v e; ⟨x, e1, r1.monoW p m⟩⟩
variable {y : Str} {py spos pos : Pos} {elt tg iter : Expr} {ifs : List Expr} {scope : Scope} {own : List (Str × Nat)} {it : AI} {is : List Nat} {g : AG} {tt : AT} {te : AE} {i : Nat}
theorem DS.setLcN (cl : Cl X k) (hN : X.N[i]? = some y) (hy : X.env.scope.names.lookup y = some .local) (hsw : swapsWith (.ListComp elt [⟨tg, iter, ifs, 0⟩] scope pos) (some (.Name y py)) spos.line X.env = pure true)
    (hi : DI κ X tg iter it) (ok : BlkOk X.N X.env.scope scope own) (hv : ∀ i ∈ is, i ∈ own.map (·.2))
    (hg : ∀ (s : Shared) (H : Hp) (C : Addr) (d : List (Str × Addr)) (fp : List Addr), Cl (X.blk s H scope (compEnvC scope d C X.env) fp) k → DG κ (X.blk s H scope (compEnvC scope d C X.env) fp) tg is g)
    (ht : ∀ (s : Shared) (H : Hp) (C : Addr) (d : List (Str × Addr)) (fp : List Addr), Cl (X.blk s H scope (compEnvC scope d C X.env) fp) k → PTs (X.blk s H scope (compEnvC scope d C X.env) fp) ifs (kT X.K κ W0 tt))
    (he : ∀ (s : Shared) (H : Hp) (C : Addr) (d : List (Str × Addr)) (fp : List Addr), Cl (X.blk s H scope (compEnvC scope d C X.env) fp) k → DE κ (X.blk s H scope (compEnvC scope d C X.env) fp) elt te) (hs : ∀ x, foldedSetIterable iter X.env x = pure x := by intro _; rfl) :
    DS κ X (.Assign [.Name y py] (.ListComp elt [⟨tg, iter, ifs, 0⟩] scope pos) spos) (sSet i (eNew (aLc it (own.map (·.2)) g tt te))) := fun W tk => by
  obtain ⟨wi, p0, i0⟩ := hi W tk
  have rule : PS X _ (tAsg (tLc wi (kG X.K κ is g) (kT X.K κ W0 tt) (kE X.K κ W0 te) (own.map (·.2))) (gName i)) := ps_setLc cl.calm cl.nd hN hy hsw p0 ok (fun s H C d fp => (hg s H C d fp (cl.blk s H _ _ fp)).kan) (fun s H C d fp => ht s H C d fp (cl.blk s H _ _ fp)) (fun s H C d fp => (he s H C d fp (cl.blk s H _ _ fp)).kan takes0) hs
  refine ⟨_, rule, fun D σ H ι ρ μ sr rl h => ?_⟩
  refine im_lc hv i0 σ H _ ι ρ μ sr rl ?_
  unfold sSet eNew at h
  revert h
  cases aLc it (own.map (·.2)) g tt te ρ μ with
  | bad => exact id
  | ex c p μ1 => exact fun h ι' H' d q n s e => h ι' H' σ d q n s (rl.mono q n) e
  | ok vs μ1 =>
    intro h ι' H' q n s a xs rx e hn h0
    have h2 : SR X.K κ (ι' ++ [a]) (μ1 ++ [.lst vs]) H' := s.alloc ⟨xs, e, rx⟩ hn (by rw [e]; simp) (by rw [e]; trivial)
    exact h (ι' ++ [a]) H' _ (q.trans (List.prefix_append _ _)) (n.more h0) h2 ((rl.monoW (q.trans (List.prefix_append _ _)) n.w).set (.loc (by rw [← s.len]; simp)))
theorem DS.setLcD (cl : Cl X k) (hN : X.N[i]? = some y) (hy : X.env.scope.names.lookup y = some .local) (hsw : swapsWith (.ListComp elt [⟨tg, iter, ifs, 0⟩] scope pos) (some (.Name y py)) spos.line X.env = pure true)
    (hi : DI κ X tg iter it) (ok : BlkOk X.N X.env.scope scope own) (hv : ∀ i ∈ is, i ∈ own.map (·.2))
    (hg : ∀ (s : Shared) (H : Hp) (C : Addr) (d : List (Str × Addr)) (fp : List Addr), Cl (X.blk s H scope (compEnvC scope d C X.env) fp) k → DG κ (X.blk s H scope (compEnvC scope d C X.env) fp) tg is g)
    (ht : ∀ (s : Shared) (H : Hp) (C : Addr) (d : List (Str × Addr)) (fp : List Addr), Cl (X.blk s H scope (compEnvC scope d C X.env) fp) k → PTs (X.blk s H scope (compEnvC scope d C X.env) fp) ifs (kT X.K κ W0 tt))
    (he : ∀ (s : Shared) (H : Hp) (C : Addr) (d : List (Str × Addr)) (fp : List Addr), Cl (X.blk s H scope (compEnvC scope d C X.env) fp) k → DE κ (X.blk s H scope (compEnvC scope d C X.env) fp) elt te) (hs : ∀ x, foldedSetIterable iter X.env x = pure x := by intro _; rfl) :
    DS κ X (.Assign [.Name y py] (.ListComp elt [⟨tg, iter, ifs, 0⟩] scope pos) spos) (sSet i (eDat (aLc it (own.map (·.2)) g tt te))) := fun W tk => by
  obtain ⟨wi, p0, i0⟩ := hi W tk
  have rule : PS X _ (tAsg (tLc wi (kG X.K κ is g) (kT X.K κ W0 tt) (kE X.K κ W0 te) (own.map (·.2))) (gName i)) := ps_setLc cl.calm cl.nd hN hy hsw p0 ok (fun s H C d fp => (hg s H C d fp (cl.blk s H _ _ fp)).kan) (fun s H C d fp => ht s H C d fp (cl.blk s H _ _ fp)) (fun s H C d fp => (he s H C d fp (cl.blk s H _ _ fp)).kan takes0) hs
  refine ⟨_, ps_low cl (ps_fz rule), fun D σ H ι ρ μ sr rl h => ?_⟩
  refine im_lc hv i0 σ H _ ι ρ μ sr rl ?_
  unfold sSet eDat at h
  revert h
  cases aLc it (own.map (·.2)) g tt te ρ μ with
  | bad => exact id
  | ex c p μ1 => exact fun h ι' H' d q n s e => h ι' H' σ d q n s (rl.mono q n) e
  | ok vs μ1 =>
    intro h ι' H' q n s a xs rx e hn h0
    refine ⟨a, xs, e, fun o hlow => ?_⟩
    have mu : Mut (H' a) := by rw [e]; trivial
    have w : HW H' (upd H' a (.frz o (.lst xs))) := (HM.mine (HM.refl (ι := [a]) H') mu (.inr (by simp))).w
    exact h ι' _ _ q (n.mine mu (.inl h0)) (s.other w hn (by rw [e]; trivial)) (((rl.mono q n).monoW (List.prefix_refl _) w).set (.lst ⟨o, upd_same, hlow a _ upd_same⟩ (rx.monoW (List.prefix_refl _) w)))
end
end Lr


namespace Lr
open PySem PySem.Spec L2
open PyProof.Rows hiding St
section
variable {κ : Kap} {X : Cx} {a b c e o tg : Expr} {ra rb rc r : AE} {pos p2 pos' : Pos} {k : Nat} {es : List Expr} {rs : AA}
def signsA (z : Str) : List AV := z.cps.toList.map fun c => .str ⟨#[c]⟩
theorem JR.str {K : PySem.W.Frag} {ι : List Addr} {H : Hp} {z : Str} : JR K κ ι H (.dat (signsA z)) (Its z) := fun i ι' H' μ hm sr => by
  have e : (signsA z)[i]? = (z.cps[i]?).map fun c => AV.str ⟨#[c]⟩ := by
    unfold signsA
    rw [List.getElem?_map, Array.getElem?_toList]
  simp only [Src.at, e]
  cases h : z.cps[i]? with
  | none => exact Array.getElem?_eq_none_iff.mp h
  | some c =>
    refine ⟨(Array.getElem?_eq_some_iff.mp h).1, fun x H2 hy => ?_⟩
    obtain ⟨rfl, c', h', rfl⟩ := hy
    rw [h] at h'
    cases h'
    exact ⟨HM.refl _, sr, .str _⟩
def iStrS (r : AE) : AI := fun ρ μ => (r ρ μ).bind fun x μ1 => match x with
  | .str z => .ok (.dat (signsA z)) μ1
  | _ => .bad
theorem DI.str (ha : DE κ X a ra) : DI κ X tg a (iStrS ra) := fun W tk => by
  obtain ⟨t, p, i⟩ := ha W tk
  refine ⟨iStr t, pi_str p, fun σ H R ι ρ μ sr rl h => ?_⟩
  refine i σ H _ ι ρ μ sr rl (PG.bind0 h fun x μ1 ι1 H1 p1 m1 sr1 h1 v rv => ?_)
  cases rv <;> first | exact False.elim h1 | skip
  exact ⟨_, rfl, h1 ι1 H1 p1 m1 sr1 _ JR.str⟩

def keyed : List (AV × AV) → Option (List (Key × AV))
  | [] => some []
  | (x, y) :: r => match keyOf x, keyed r with
    | some k, some ks => some ((k, y) :: ks)
    | _, _ => none
def aDisp (rp : Loc → Store → Res (List (AV × AV))) : AD := fun ρ μ => (rp ρ μ).bind fun kvs μ1 => match keyed kvs with
  | some ks => if (ks.map (·.1)).Nodup ∧ kvs.length ≤ 15 then .ok ks μ1 else .bad
  | none => .bad
theorem keyed_kV {K : PySem.W.Frag} {ι : List Addr} {H : Hp} : ∀ {kvs : List (AV × AV)} {ps : List (V × V)} {ks : List (Key × AV)}, RelP K κ ι H kvs ps → keyed kvs = some ks → ∃ qs : List (Key × V), ps = qs.map (fun kv => (kV kv.1, kv.2)) ∧ RelK K κ ι H ks qs
  | _, _, _, .nil, e => by cases e; exact ⟨[], rfl, .nil⟩
  | _, _, _, .cons (x := x) (y := y) (v := v) (u := u) (kvs := kvs) h g r, e => by
    simp only [keyed] at e
    split at e
    · rename_i k ks e1 e2
      cases e
      obtain ⟨qs, eq, ek⟩ := keyed_kV r e2
      refine ⟨(k, u) :: qs, ?_, .cons ⟨rfl, g⟩ ek⟩
      rw [List.map_cons, ← eq, keyOf_kV h e1]
    · cases e
theorem DD.disp {ks : List (Option Expr)} {vs : List Expr} {rp : Loc → Store → Res (List (AV × AV))} (h : DP κ X pos ks vs rp) (hall : ks.all (·.isSome) = true := by rfl) (hl : ks.length = vs.length := by rfl) (h0 : ks ≠ [] := by simp) (h15 : ks.length ≤ 15 := by decide) :
    DD κ X (.Dict ks vs pos) (aDisp rp) := fun W tk => by
  obtain ⟨t, p, i⟩ := h W tk
  refine ⟨_, pe_disp p hall hl h0 h15, fun σ H Q ι ρ μ sr rl h p hn => ?_⟩
  have rl1 := rl.mono (List.prefix_refl _) (HM.fresh (o := .dK []) hn)
  refine i σ _ _ ι ρ μ (sr.new (o := .dK []) hn) rl1 (PG.bindF (HM.fresh hn) h fun kvs μ1 ι1 H1 p1 m1 sr1 h1 _ ps rp => ?_)
  have e1 : H1 p = some (.dK []) := m1.oth p _ (sr.notin hn) upd_same
  split at h1
  · rename_i kk ek
    by_cases hk : (kk.map (·.1)).Nodup ∧ kvs.length ≤ 15
    · rw [if_pos hk] at h1
      obtain ⟨qs, eq, rk⟩ := keyed_kV rp ek
      subst eq
      have hlen := rp.length
      rw [List.length_map] at hlen
      have em : mergeK [] qs = qs := by
        have := merge_new qs [] (by rw [List.map_nil, List.nil_append, ← rk.keys]; exact hk.1)
        simpa using this
      have hn1 : p ∉ ι1 := fun z => by
        have := m1.new p z (sr.notin hn)
        rw [upd_same] at this
        cases this
      refine ⟨e1, qs, rfl, by omega, ?_⟩
      rw [em]
      have mu : Mut (H1 p) := by rw [e1]; trivial
      have w : HW H1 (upd H1 p (.dK qs)) := (HM.mine (HM.refl (ι := [p]) H1) mu (.inr (by simp))).w
      exact h1 ι1 _ ((HM.fresh hn).trans m1).pre (((HM.fresh hn).trans m1).mine mu (.inl hn)) (sr1.other w hn1 (by rw [e1]; trivial)) p qs (rk.mono (List.prefix_refl _) w) upd_same hn1 hn
    · rw [if_neg hk] at h1
      exact False.elim h1
  · exact False.elim h1

def eDGet2 (o i d : AE) : AE := fun ρ μ => (o ρ μ).bind fun l μ1 => if isDc μ1 l then (i ρ μ1).bind fun j μ2 => (d ρ μ2).bind fun z μ3 => match stD μ3 l, keyOf j with
  | some (_, kvs), some k => .ok ((valA kvs k).getD z) μ3
  | _, _ => .bad else .bad
theorem valA_none {K : PySem.W.Frag} {ι : List Addr} {H : Hp} {kvs : List (Key × AV)} {vs : List (Key × V)} {k : Key} (r : RelK K κ ι H kvs vs) (h : valA kvs k = none) : valV vs k = none := by
  have e1 := valV_any k vs
  rw [← r.any k] at e1
  have e2 : (kvs.any fun kv => decide (kv.1 = k)) = false := by
    rw [List.any_eq_false]
    intro p hp z
    have z := of_decide_eq_true z
    unfold valA at h
    rw [Option.map_eq_none_iff, List.find?_eq_none] at h
    exact h p hp (decide_eq_true z)
  rw [e2] at e1
  cases hv : valV vs k with
  | none => rfl
  | some x => rw [hv] at e1; cases e1
theorem DE.dget2 {i d : Expr} {apos cpos : Pos} (cl : Cl X k) (ho : DE κ X o ra) (hi : DE κ X i rb) (hd : DE κ X d rc) (m : M2 X o "get" apos i d cpos := by exact ⟨rfl, rfl, rfl, rfl⟩) : DE κ X (.Call (.Attribute o "get" apos) [i, d] [] cpos) (eDGet2 ra rb rc) := fun W tk => by
  obtain ⟨t1, p1, i1⟩ := ho W tk
  obtain ⟨t2, p2, i2⟩ := hi W tk
  obtain ⟨t3, p3, i3⟩ := hd W tk
  refine ⟨_, pe_dget2 (by have := cl.room.un; omega) p1 p2 p3 m, fun σ H Q ι ρ μ sr rl h => ?_⟩
  refine i1 σ H _ ι ρ μ sr rl (PG.bind h fun l μ1 ι1 H1 q1 m1 sr1 h1 lv rlv => ?_)
  by_cases hl : isDc μ1 l = true
  · rw [if_pos hl] at h1
    obtain ⟨⟨n0, xs0⟩, e0⟩ := Option.isSome_iff_exists.mp hl
    obtain ⟨p0, vs0, rfl, hp0, h0, _⟩ := stD_rel sr1 rlv e0
    refine ⟨p0, rfl, .inl ⟨vs0, .inl h0⟩, ?_⟩
    refine i2 σ H1 _ ι1 ρ μ1 sr1 (rl.mono q1 m1) (PG.bind h1 fun j μ2 ι2 H2 q2 m2 sr2 h2 jv rj => ?_)
    refine i3 σ H2 _ ι2 ρ μ2 sr2 ((rl.mono q1 m1).mono q2 m2) (PG.bind h2 fun z μ3 ι3 H3 q3 m3 sr3 h3 zv rz => ?_)
    split at h3
    · rename_i n kvs kk e1 ek
      obtain ⟨p1', vs, ex, hq, e2, r2⟩ := stD_rel sr3 ((rlv.mono q2 m2).mono q3 m3) e1
      cases ex
      have ejv := keyOf_kV (rj.mono q3 m3) ek
      subst ejv
      refine ⟨valV vs kk, DGet.k e2, ?_⟩
      cases hv : valA kvs kk with
      | none =>
        rw [hv] at h3
        rw [valA_none r2 hv]
        exact ok1 sr3 h3 rz
      | some v =>
        rw [hv] at h3
        obtain ⟨u, eu, ru⟩ := r2.val hv
        rw [eu]
        exact ok1 sr3 h3 ru
    · exact False.elim h3
  · rw [if_neg hl] at h1
    exact False.elim h1

def gLenD : Fn := fun as μ => match as with
  | [x] => match stD μ x with
    | some (_, kvs) => .ok (.int kvs.length) μ
    | none => .bad
  | _ => .bad
theorem ca_lenD : CallA κ X (.builtin "len") gLenD := fun W tk pins s σ H xs us Q I r hh => by
  obtain ⟨σ0, ι, μ, as, sr, rl, h⟩ := hh
  unfold gLenD at h
  split at h <;> first | exact False.elim h | skip
  split at h <;> first | exact False.elim h | skip
  rename_i x _ n kvs e1
  cases rl with
  | cons r1 r2 =>
    cases r2
    obtain ⟨p, vs, rfl, hq, e2, r3⟩ := stD_rel sr r1 e1
    rw [Vals.ref1 r]
    refine d_len I (.inl e2) fun t s' I' => ⟨.int _, H, I', ⟨_, rfl⟩, ?_⟩
    rw [← r3.length]
    exact ok1 sr h (.int _)
end
end Lr


namespace Lr
open PySem PySem.Spec L2
open PyProof.Rows hiding St


abbrev kn (a : Addr) (o : Obj) : HO := .frz o (.ext fun h => h.get? a = some o)
theorem kn_ok {P : Program} {w : World} {H : Hp} {h : Heap} {a : Addr} {o : Obj} (e : h.get? a = some o) : ObjOk P w H h a (kn a o) :=
  ⟨e, e, ⟨o, e⟩, fun _ _ q k => k _ q⟩
section
variable {X : Cx} {pins : List (Addr × Obj)} {σ : St} {H : Hp} {s : Shared}

theorem inv_kn {p : Addr} {o : Obj} {u : HO} (I : Inv X pins σ H s) (h : H p = some u) (h1 : ∀ xs, u ≠ .tup xs) (h2 : ∀ q v, u ≠ .frz q v) (h3 : ∀ x, u ≠ .own x) (h4 : ∀ ps, u ≠ .tbl ps) (ho : s.heap.get? p = some o) : Inv X pins σ (upd H p (kn p o)) s := by
  have ne : ∀ {b : Addr}, H b = none → b ≠ p := fun q z => by subst z; rw [h] at q; cases q
  have nt : ∀ {b : Addr} {v : HO}, H b = some v → u ≠ v → b ≠ p := fun q q2 z => by subst z; rw [h] at q; exact q2 (Option.some.inj q)
  refine I.un (h' := s.heap) (t' := s.toks) ⟨fun b o q _ _ _ => q, fun b o q _ _ _ => ⟨o.slots, q⟩, fun b o q n _ => by rw [upd_ne (ne n)]; exact n, fun b o q _ => ⟨o, q⟩, fun b xs q => by rw [upd_ne (nt q (h1 _))]; exact q, fun b o v q => by rw [upd_ne (nt q (h2 _ _))]; exact q, fun b ps q => ⟨#[], by rw [upd_ne (nt q (h4 _)), q]; simp⟩⟩ fun b v q => ?_
  by_cases hb : b = p
  · subst hb
    rw [upd_same] at q
    cases q
    exact kn_ok ho
  · rw [upd_ne hb] at q
    exact (I.hok b v q).stay (fun c v _ z => z) (fun c z => by rw [upd_ne (nt z (h3 _))]; exact z) fun c xs z => by rw [upd_ne (nt z (h1 _))]; exact z

theorem inv_pin {p : Addr} {o : Obj} (I : Inv X ((p, o) :: pins) σ H s) (n0 : X.s_0.heap.get? p = none) (nc : ∀ x c, X.env.cells.lookup x = some c → c ≠ p) (np : ∀ q ∈ X.pn ++ pins, q.1 ≠ p) : Inv X pins σ (upd H p (kn p o)) s := by
  obtain ⟨e, hn, nl, nf, nv⟩ := I.pin (p, o) (List.mem_append_right _ List.mem_cons_self)
  have I0 : Inv X pins σ H s := ⟨I.ok, I.os, I.bare, I.base, I.loc, I.cell, I.free, I.freeC, fun q hq => I.pin q ((List.mem_append.mp hq).elim (fun z => List.mem_append_left _ z) fun z => List.mem_append_right _ (List.mem_cons_of_mem _ z)), I.hok, I.len⟩
  have nb : ∀ b q, X.s_0.heap.get? b = some q → b ≠ p := fun b q z y => by rw [y, n0] at z; cases z
  refine ⟨I.ok, I.os, I.bare, ⟨I.base.keep, I.base.slot, fun b q z n x => by rw [upd_ne (nb b q z)]; exact I.base.free b q z n x, I.base.there, fun b xs z => ?_, fun b q v z => ?_, fun b ps z => ?_⟩, I.loc, I.cell, by rw [upd_ne (Ne.symm nl)]; exact I.free, fun x c z => by rw [upd_ne (nc x c z)]; exact I.freeC x c z, fun q hq => ?_, fun b v z => ?_, I.len⟩
  · have y := I.base.tups b xs z
    rw [upd_ne (ne_of_none y hn)]; exact y
  · have y := I.base.frzs b q v z
    rw [upd_ne (ne_of_none y hn)]; exact y
  · obtain ⟨more, y⟩ := I.base.tbls b ps z
    exact ⟨more, by rw [upd_ne (ne_of_none y hn)]; exact y⟩
  · obtain ⟨y1, y2, y3, y4, y5⟩ := I0.pin q hq
    exact ⟨y1, by rw [upd_ne (np q hq)]; exact y2, y3, y4, y5⟩
  · by_cases hb : b = p
    · subst hb
      rw [upd_same] at z
      cases z
      exact kn_ok e
    · rw [upd_ne hb] at z
      exact (I.hok b v z).stay (fun c v _ z => z) (fun c z => by rw [upd_ne (ne_of_none z hn)]; exact z) fun c xs z => by rw [upd_ne (ne_of_none z hn)]; exact z

theorem xdict_of {h : Heap} {d : Addr} {x : V} {mA : Str → Option Value} (hn : h.Ns1 d mA) (r : ∀ f, RelO (List.lookup f [(("value" : Str), x)]) (mA f)) : ∃ od, h.get? d = some od ∧ XDict od x := by
  obtain ⟨o, es, ep, ho, hr⟩ := hn
  exact ⟨o, ho, fun h' d' e => ⟨mA, ⟨o, es, ep, e, hr⟩, r⟩⟩
theorem inv_xd {d : Addr} {x : V} (I : Inv X pins σ H s) (h : H d = some (.xd [(("value" : Str), x)])) : ∃ od, XDict od x ∧ Inv X pins σ (upd H d (kn d od)) s := by
  have q : ObjOk X.prog X.w H s.heap d (.xd [(("value" : Str), x)]) := I.hok d _ h
  obtain ⟨mA, hn, r⟩ := q
  obtain ⟨od, e, z⟩ := xdict_of hn r
  exact ⟨od, z, inv_kn I h (fun _ z => nomatch z) (fun _ _ z => nomatch z) (fun _ z => nomatch z) (fun _ z => nomatch z) e⟩
theorem inv_exd {d : Addr} {x : V} (I : Inv X pins σ H s) (h : H d = some (exd d [(("value" : Str), x)])) : ∃ od, XDict od x ∧ Inv X pins σ (upd H d (kn d od)) s := by
  obtain ⟨mA, hn, r⟩ := exd_at I.hok h
  obtain ⟨od, e, z⟩ := xdict_of hn r
  exact ⟨od, z, inv_kn I h (fun _ z => exd_tup z) (fun _ _ z => nomatch z) (fun _ z => exd_own z) (fun _ z => nomatch z) e⟩
theorem inv_exo {a C : Addr} {d : Option Addr} (I : Inv X pins σ H s) (h : H a = some (exo a C d)) : ∃ oa, oa.cls = .ref C ∧ oa.dict = d ∧ (∃ vs, oa.data = .fields vs) ∧ Inv X pins σ (upd H a (kn a oa)) s := by
  obtain ⟨t1, e⟩ := exo_at I.hok h
  exact ⟨_, rfl, rfl, ⟨_, rfl⟩, inv_kn I h (fun _ z => exo_tup z) (fun _ _ z => exo_frz z) (fun _ z => exo_own z) (fun _ z => exo_tbl z) e⟩
end


def MkD (C a : Addr) (H2 : Hp) (R : VK) : Prop :=
  (∃ (d : Addr) (x : V), H2 a = some (exo a C (some d)) ∧ H2 d = some (exd d [(("value" : Str), x)]) ∧ d ≠ a ∧ ∀ oa od, oa.cls = .ref C → oa.dict = some d → (∃ vs, oa.data = .fields vs) → XDict od x → R (.ref a) (upd (upd H2 d (kn d od)) a (kn a oa))) ∨
  (H2 a = some (exo a C none) ∧ ∀ oa, oa.cls = .ref C → oa.dict = none → (∃ vs, oa.data = .fields vs) → R (.ref a) (upd H2 a (kn a oa)))
theorem mkd_end {X : Cx} {pins : List (Addr × Obj)} {σ : St} {H2 : Hp} {s : Shared} {C a : Addr} {R : VK} (I : Inv X pins σ H2 s) (h : MkD C a H2 R) : EP X pins σ R (.ref a) s := by
  rcases h with ⟨d, x, ha, hd, hne, h⟩ | ⟨ha, h⟩
  · obtain ⟨od, xo, I2⟩ := inv_exd I hd
    obtain ⟨oa, e1, e2, e3, I3⟩ := inv_exo I2 (by rw [upd_ne (Ne.symm hne)]; exact ha)
    exact ⟨.ref a, _, I3, rfl, h oa od e1 e2 e3 xo⟩
  · obtain ⟨oa, e1, e2, e3, I3⟩ := inv_exo I ha
    exact ⟨.ref a, _, I3, rfl, h oa e1 e2 e3⟩
section
variable {X : Cx} {pins : List (Addr × Obj)} {σ : St} {H1 : Hp} {s1 : Shared} {C fI : Addr} {k : Nat} {fd : FuncData} {ps : List Str} {sp : Sp} {us : List Value} {vs : List V} {R : VK}
theorem call_mkx (T : OexC X.K C) (iC : PySem.W.findIn X.K (.ref C) "__init__" = some (some (.ref fI))) (tI : PySem.W.typeIn X.K (.ref fI) = some (.type "function")) (F1 : FnOk X.prog X.w X.K X.mg X.base (L2.CX X.prog X.w) k fI fd ps sp) (hr : Room (k + 1) X.A) (hb : Binds X.K fd ps [])
    (I1 : Inv X pins σ H1 s1) (r1 : Vals vs us) (hz : vs.length ≤ 1000) (q1 : ∀ a, H1 a = none → sp (.ref a :: vs) (upd H1 a (exo a C none)) (fun v H2 => v = .non ∧ MkD C a H2 R) (fun _ _ _ => False)) :
    wpAny (model X.prog X.w) X.A (call (.ref C) us) (EP X pins σ R) X.xe s1 := by
  obtain ⟨nm, q, N, bs, bm, sn, sub, ab, col, dd, k0, k1, k2, k3, k5, hC, hbm⟩ := T.cls
  obtain ⟨hp, g, dr, tk, os⟩ := s1
  have hsz : hp.objs.size ≤ hp.objs.size + 1 := Nat.le_succ _
  have hn : H1 (hp.objs.size + 1) = none := I1.hok.fresh hsz
  have hq := q1 (hp.objs.size + 1) hn
  have kk : ∀ b o, hp.get? b = some o → ((hp.push (PySem.W.kdv_tup us)).push (PySem.HandSPX.excO C hp.objs.size)).get? b = some o := fun b o e => Heap.get?_push_of_some _ (Heap.get?_push_of_some _ e)
  have hget : ((hp.push (PySem.W.kdv_tup us)).push (PySem.HandSPX.excO C hp.objs.size)).get? (hp.objs.size + 1) = some (PySem.HandSPX.excO C hp.objs.size) := by heap_get
  have I2 : Inv X pins σ (upd H1 (hp.objs.size + 1) (exo (hp.objs.size + 1) C none)) ⟨(hp.push (PySem.W.kdv_tup us)).push (PySem.HandSPX.excO C hp.objs.size), g, dr, tk, os⟩ :=
    I1.laid (t' := tk) (a := hp.objs.size + 1) (o := exo (hp.objs.size + 1) C none) (h' := (hp.push (PySem.W.kdv_tup us)).push (PySem.HandSPX.excO C hp.objs.size)) kk hsz (exo_ok hget)
  have r2 : Vals (V.ref (hp.objs.size + 1) :: vs) (Value.ref (hp.objs.size + 1) :: us) := .cons rfl r1
  have hl : (Value.ref (hp.objs.size + 1) :: us ++ ([] : List Value)).length = ps.length := by
    rw [List.append_nil]
    have e := r2.length
    rw [F1.len _ _ _ _ hq] at e
    exact e.symm
  have hus : us.length ≤ sizeLine := by
    rw [← Paired.length r1, sizeLine_eq]
    omega
  have hbd := hb _ (Value.ref (hp.objs.size + 1) :: us) I2.kIn hl
  rw [List.append_nil] at hbd
  refine wpAny_call (PySem.HandSPX.call_own F.excBase_ValueError (fun Y => PySem.HandSPX.refsVE_contains Y bm hbm) (I1.kIn _ _ hC) (PySem.W.looks_findIn I1.kIn iC) (fun self => PySem.W.bind_fn I1.kIn self tI) hus
    (codeAny_mono (F1.run _ X.stack _ _ ⟨Value.ref (hp.objs.size + 1) :: us, []⟩ (Value.ref (hp.objs.size + 1) :: us) _ _ (fun _ _ _ => False) (hr.make C us []) (I2.env0.make C us []) hbd r2 hq) fun r s' hq' => ?_))
  cases r with
  | error er =>
    obtain ⟨_, _, _, _, _, _, _, _, _, _, _, _, z⟩ := hq'
    exact False.elim z
  | ok fl =>
    cases fl with
    | ret u =>
      obtain ⟨v, H2, os2, bare2, un2, hok2, rv, ev, md⟩ := hq'
      subst ev
      refine ⟨rv, ?_⟩
      have J : Inv X pins σ H2 s' := I2.call' (ch := []) os2 un2 hok2 bare2 (fun b z => absurd z (by simp))
      exact mkd_end J md
    | next => exact False.elim hq'
    | brk => exact False.elim hq'
    | cont => exact False.elim hq'
end


section
variable {X : Cx} {e : Expr} {es : List Expr} {ta : TA} {pos p1 p2 : Pos} {B : Addr} {b : Str}

theorem pe_cinit {pl : Sem Bool} (hg : Gl X b) (hm : X.mg b = some (.ref B)) (sB : PySem.W.specialIn X.K (.ref B) "__getattribute__" = some (some (.builtin "type.__getattribute__"))) (rB : PySem.W.readsIn X.K B (.type "type") = true)
    (vB : PySem.W.findCls X.K (.ref B) (.type "type") "__init__" = some (.val (.builtin "ValueError.__init__"))) (ha : PA X (e :: es) ta)
    (hdb : (b == ("__debug__" : Str)) = false := by decide)
    (hc : eval (.Call (.Attribute (.Name b p1) "__init__" p2) (e :: es) [] pos) X.env = (do
      let ov ← eval (.Name b p1) X.env
      standAt p2.atName
      let (f, first) ← holding [ov] (getMethod ov "__init__" pl)
      callWith pos f first (backTo pos (starEach (e :: es) X.env)) (backToKw pos (keywordEach [] X.env))) := by rfl)
    (he : starEach (e :: es) X.env = (false, eval e X.env) :: starEach es X.env := by rfl) (hpl : (backTo pos (starEach es X.env)).any (·.1) = false := by rfl) :
    PE X (.Call (.Attribute (.Name b p1) "__init__" p2) (e :: es) [] pos) (tVeI X.K ta) := by
  refine ⟨fun pins s σ H Q I h => ?_⟩
  refine PySem.W.methodCall_KW (ld_glob I hg hm ?_ hdb) hc
  refine PySem.W.method_cls I.kIn sB (PySem.W.cls_value I.kIn rB vB (by decide +kernel) ?_)
  show wpAny _ _ (callWith pos (Value.builtin "ValueError.__init__") [] (backTo pos (starEach (e :: es) X.env)) []) _ _ _
  refine PyProof.Rows.callWith_method1 (thn (ha.run pos pins _ σ H _ (I.tok _) h) fun us s1 ⟨vs, H1, I1, r1, a, C, ws, ev, hl, T, ea, q⟩ => ?_) he hpl
  subst ev
  cases r1 with
  | @cons _ u0 _ ur ra rw' =>
    obtain rfl : u0 = Value.ref a := ra
    have hlen : ur.length ≤ sizeLine := by
      rw [← Paired.length rw', sizeLine_eq]
      omega
    exact oinit_ok T I1 ea hlen fun s' J => ⟨.non, H1, J, rfl, q⟩
end
def spX (K : PySem.W.Frag) (C : Addr) : Sp := fun vs H Q _ => ∃ a v, vs = [.ref a, v] ∧ OexC K C ∧ PySem.W.findIn K (.ref C) "value" = some none ∧ H a = some (exo a C none) ∧ ∀ d, H d = none → d ≠ a → Q .non (upd (upd H d (exd d [("value", v)])) a (exo a C (some d)))
def spX0 (K : PySem.W.Frag) (C : Addr) : Sp := fun vs H Q _ => ∃ a, vs = [.ref a] ∧ OexC K C ∧ H a = some (exo a C none) ∧ Q .non H
def t_x (K : PySem.W.Frag) (m : Str) : TS := tSeq (tDrop (tVeI K (tCons (tVar 0) (tCons (tC (.str m)) tNil)))) (tSeq (tOst K "value" (tVar 0) (tVar 1)) tNext)
def t_x0 (K : PySem.W.Frag) (m : Str) : TS := tSeq (tDrop (tVeI K (tCons (tVar 0) (tCons (tC (.str m)) tNil)))) tNext
theorem pure_x {K : PySem.W.Frag} {C : Addr} {m : Str} (vs : List V) (H : Hp) (Q : VK) (E : XK) (h : spX K C vs H Q E) : t_x K m { nx := fun _ H' => Q .non H', rt := Q } (L2.start ["self", "value"] vs) H := by
  obtain ⟨a, v, rfl, T, hf, ha, q⟩ := h
  exact ⟨_, rfl, a, C, [.str m], rfl, by simp, T, ha, _, rfl, _, rfl, a, C, rfl, T, hf, .inl ⟨ha, fun d hd hne => q d hd hne⟩⟩
theorem pure_x0 {K : PySem.W.Frag} {C : Addr} {m : Str} (vs : List V) (H : Hp) (Q : VK) (E : XK) (h : spX0 K C vs H Q E) : t_x0 K m { nx := fun _ H' => Q .non H', rt := Q } (L2.start ["self"] vs) H := by
  obtain ⟨a, rfl, T, ha, q⟩ := h
  exact ⟨_, rfl, a, C, [.str m], rfl, by simp, T, ha, q⟩
end Lr


namespace Lr
open PySem PySem.Spec L2
open PyProof.Rows hiding St

theorem up5 {H : Hp} {a d : Addr} {o1 o2 o3 o4 o5 : HO} (h : d ≠ a) : upd (upd (upd (upd (upd H a o1) d o2) a o3) d o4) a o5 = upd (upd H d o4) a o5 := by
  funext b
  by_cases ha : b = a
  · rw [ha, upd_same, upd_same]
  · rw [upd_ne ha, upd_ne ha]
    by_cases hd : b = d
    · rw [hd, upd_same, upd_same]
    · rw [upd_ne hd, upd_ne hd, upd_ne ha, upd_ne hd, upd_ne ha]
theorem up2 {H : Hp} {a : Addr} {o1 o2 : HO} : upd (upd H a o1) a o2 = upd H a o2 := by
  funext b
  by_cases ha : b = a
  · rw [ha, upd_same, upd_same]
  · rw [upd_ne ha, upd_ne ha, upd_ne ha]
section
variable {κ : Kap} {X : Cx} {e : Expr} {rs : AA} {k c : Nat} {fI : Addr} {fd : FuncData} {x : Str} {p pos : Pos}

def eMkX (c : Nat) (r : AA) : AE := fun ρ μ => (r ρ μ).bind fun as μ1 => match as with
  | [v] => .ok (.loc μ1.length) (μ1 ++ [.exc c (some v)])
  | _ => .bad
theorem DE.mkx (kc : KC X.K κ c) (cl : Cl X k) (h3 : 3 ≤ k) (T : OexC X.K (κ c)) (iC : PySem.W.findIn X.K (.ref (κ c)) "__init__" = some (some (.ref fI))) (tI : PySem.W.typeIn X.K (.ref fI) = some (.type "function"))
    (F1 : FnOk X.prog X.w X.K X.mg X.base (L2.CX X.prog X.w) 2 fI fd ["self", "value"] (spX X.K (κ c))) (hb : Binds X.K fd ["self", "value"] []) (hg : Gl X x) (hm : X.mg x = some (.ref (κ c))) (ha : DA κ X [e] rs)
    (hdb : (x == ("__debug__" : Str)) = false := by decide) (he : starEach [e] X.env = (false, eval e X.env) :: starEach [] X.env := by rfl) (hpl : (backTo pos (starEach [] X.env)).any (·.1) = false := by rfl) :
    DE κ X (.Call (.Name x p) [e] [] pos) (eMkX c rs) := fun W tk => by
  obtain ⟨t, q, i⟩ := ha W tk
  refine ⟨fun σ H Q => t σ H fun vs H1 => ∃ v, vs = [v] ∧ ∀ (a d : Addr) (oa od : Obj), H1 a = none → H1 d = none → d ≠ a → oa.cls = .ref (κ c) → oa.dict = some d → (∃ vs, oa.data = .fields vs) → XDict od v → Q (.ref a) (L2.upd (L2.upd H1 d (kn d od)) a (kn a oa)), ⟨fun pins s σ H Q I h => ?_⟩, fun σ H Q ι ρ μ sr rl h => ?_⟩
  · refine wpAny_Call_Name_kw (ld_glob I hg hm ?_ hdb)
    refine PySem.W.callWith_K (h₀ := X.base) I.ok.mod.kin T.kC (thn (q.run pos pins s σ H _ I h) fun us s1 ⟨vs, H1, I1, r1, v, ev, h1⟩ => ⟨I1.kIn, ?_⟩) he hpl
    subst ev
    refine call_mkx T iC tI F1 (cl.room.mono h3) hb I1 r1 (by simp) fun a hn => ⟨a, v, rfl, T, kc.nv, upd_same, fun d hd hne => ⟨rfl, .inl ⟨d, v, upd_same, by rw [upd_ne hne, upd_same], hne, fun oa od e1 e2 e3 xo => ?_⟩⟩⟩
    rw [up5 hne]
    exact h1 a d oa od hn (by rw [upd_ne hne] at hd; exact hd) hne e1 e2 e3 xo
  · refine i σ H _ ι ρ μ sr rl (PG.bind h fun as μ1 ι1 H1 p1 m1 sr1 h1 vs rv => ?_)
    split at h1
    · rename_i y
      cases rv with
      | cons ry rn =>
        cases rn
        refine ⟨_, rfl, fun a d oa od hn hd hne e1 e2 e3 xo => ?_⟩
        have m2 : HM ι1 H1 ι1 (L2.upd H1 d (kn d od)) := HM.fresh hd
        have hn2 : L2.upd H1 d (kn d od) a = none := by rw [upd_ne (Ne.symm hne)]; exact hn
        have m3 : HM ι1 (L2.upd H1 d (kn d od)) ι1 (L2.upd (L2.upd H1 d (kn d od)) a (kn a oa)) := HM.fresh hn2
        have sr2 := (sr1.new (o := kn d od) hd).new (o := kn a oa) hn2
        have m := m2.trans m3
        have h2 := sr2.alloc (a := a) (o := .exc c (some y)) ⟨oa, upd_same, e1, e3, ⟨d, od, _, e2, by show L2.upd _ _ _ d = _; rw [upd_ne hne, upd_same], xo, ry.mono (List.prefix_refl _) m⟩, kc⟩ (sr1.notin hn) (by rw [upd_same]; simp) (by rw [upd_same]; trivial)
        refine h1 (ι1 ++ [a]) _ (List.prefix_append _ _) (m.more hn) h2 _ (.loc ?_)
        rw [← sr1.len]
        simp
    · exact False.elim h1

def eMkX0 (c : Nat) : AE := fun _ μ => .ok (.loc μ.length) (μ ++ [.exc c none])
theorem DE.mkx0 (kc : KC X.K κ c) (cl : Cl X k) (h3 : 3 ≤ k) (T : OexC X.K (κ c)) (iC : PySem.W.findIn X.K (.ref (κ c)) "__init__" = some (some (.ref fI))) (tI : PySem.W.typeIn X.K (.ref fI) = some (.type "function"))
    (F1 : FnOk X.prog X.w X.K X.mg X.base (L2.CX X.prog X.w) 2 fI fd ["self"] (spX0 X.K (κ c))) (hb : Binds X.K fd ["self"] []) (hg : Gl X x) (hm : X.mg x = some (.ref (κ c))) (hdb : (x == ("__debug__" : Str)) = false := by decide) :
    DE κ X (.Call (.Name x p) [] [] pos) (eMkX0 c) := fun W tk => by
  refine ⟨fun σ H Q => ∀ (a : Addr) (oa : Obj), H a = none → oa.cls = .ref (κ c) → oa.dict = none → (∃ vs, oa.data = .fields vs) → Q (.ref a) (L2.upd H a (kn a oa)), ⟨fun pins s σ H Q I h => ?_⟩, fun σ H Q ι ρ μ sr rl h a oa hn e1 e2 e3 => ?_⟩
  · refine wpAny_Call_Name_kw (ld_glob I hg hm ?_ hdb)
    refine PySem.W.callWith_K0 I.kIn T.kC ?_
    show wpAny _ _ (PySem.call (.ref (κ c)) []) _ _ _
    refine call_mkx T iC tI F1 (cl.room.mono h3) hb I .nil (by simp) fun a hn => ⟨a, rfl, T, upd_same, rfl, .inr ⟨upd_same, fun oa e1 e2 e3 => ?_⟩⟩
    rw [up2]
    exact h a oa hn e1 e2 e3
  · have h2 := (sr.new (o := kn a oa) hn).alloc (a := a) (o := .exc c none) ⟨oa, upd_same, e1, e3, e2, kc⟩ (sr.notin hn) (by rw [upd_same]; simp) (by rw [upd_same]; trivial)
    refine h (ι ++ [a]) _ (List.prefix_append _ _) ((HM.fresh hn).more hn) h2 _ (.loc ?_)
    rw [← sr.len]
    simp
end


theorem kn_get {P : Program} {w : World} {H : Hp} {h : Heap} {a : Addr} {o : Obj} (x : HOk P w H h) (e : KnO H a o) : h.get? a = some o := (x a _ e).1

def stX (μ : Store) : AV → Option (Nat × Option AV)
  | .loc n => match μ[n]? with
    | some (.exc c p) => some (c, p)
    | _ => none
  | _ => none
section
variable {κ : Kap} {X : Cx} {e : Expr} {r : AE} {pos : Pos}
theorem stX_rel {K : PySem.W.Frag} {ι : List Addr} {H : Hp} {μ : Store} (sr : SR K κ ι μ H) {a : AV} {x : V} {c : Nat} {p : Option AV} (r : Rel K κ ι H a x) (e : stX μ a = some (c, p)) :
    ∃ q oa, x = .ref q ∧ KnO H q oa ∧ oa.cls = .ref (κ c) ∧ (∃ vs, oa.data = .fields vs) ∧ ExcR K κ ι H oa p ∧ KC K κ c := by
  cases r <;> first | (cases e; done) | skip
  rename_i m q h
  simp only [stX] at e
  split at e
  · rename_i ys z
    cases e
    obtain ⟨oa, h1, h2, h3, h4, h5⟩ := sr.obj _ _ q z h
    exact ⟨q, oa, rfl, h1, h2, h3, h4, h5⟩
  · cases e
theorem inst_of {pins : List (Addr × Obj)} {σ : St} {H : Hp} {s : Shared} {ι : List Addr} {a : Addr} {oa : Obj} {C : Addr} {p : Option AV} (I : Inv X pins σ H s) (h1 : KnO H a oa) (h2 : oa.cls = .ref C) (h3 : ∃ vs, oa.data = .fields vs) (h4 : ExcR X.K κ ι H oa p) : ∃ od, PySem.W.InstAt s.heap a oa C od := by
  obtain ⟨vs, h3⟩ := h3
  cases p with
  | none => exact ⟨none, kn_get I.hok h1, h2, by unfold PySem.W.notCls; rw [h3] <;> rfl, by rw [show oa.dict = none from h4]; trivial⟩
  | some v =>
    obtain ⟨d, od, x, q1, q2, q3, q4⟩ := h4
    exact ⟨some od, kn_get I.hok h1, h2, by unfold PySem.W.notCls; rw [h3] <;> rfl, by rw [q1]; exact kn_get I.hok q2⟩
def gIsiX : Fn := fun as μ => match as with
  | [v, .obj d] => match stX μ v with
    | some (c, _) => .ok (.bl (isub c d)) μ
    | none => .bad
  | [v, .ty t] => match stX μ v with
    | some _ => if t = "ValueError" then .ok (.bl true) μ else .bad
    | none => gIsi as μ
  | _ => .bad
theorem kit_sub {K : PySem.W.Frag} {c d : Nat} (kc : KC K κ c) (hd : Pres K (κ d)) : PySem.W.kitOne K (.ref (κ c)) (.ref (κ d)) = some (isub c d) := by
  unfold PySem.W.kitOne
  split
  · rename_i q
    have e : κ c = κ d := Value.ref.inj (beq_iff_eq.mp q)
    have h1 := kc.sub d hd
    have h2 := kc.sub c (by rw [e]; exact hd)
    rw [← e, h2] at h1
    have z : isub c c = true := by simp [isub]
    rw [← h1, z]
  · unfold PySem.W.kitCls
    simp only [hd.1, hd.2.1]
    exact kc.sub d hd
theorem kit_exm {K : PySem.W.Frag} {c d : Nat} (kc : KC K κ c) (hd : Pres K (κ d)) : PySem.W.exmOne K (.ref (κ c)) (.ref (κ d)) = some (isub c d) := by
  unfold PySem.W.exmOne
  rw [hd.2.2, if_pos (by decide)]
  unfold PySem.W.kitCls
  simp only [hd.1, hd.2.1]
  exact kc.sub d hd
theorem kit_ve {K : PySem.W.Frag} {c : Nat} (kc : KC K κ c) : PySem.W.kitOne K (.ref (κ c)) (.type "ValueError") = some true := by
  unfold PySem.W.kitOne
  split
  · rfl
  · show (if PySem.W.kitMeta "ValueError" = true then PySem.W.subIn K (.ref (κ c)) (.type "ValueError") else none) = some true
    rw [show (PySem.W.kitMeta "ValueError") = true from by decide +kernel]
    exact kc.ve
theorem kit_exc {pins : List (Addr × Obj)} {σ : St} {H : Hp} {s : Shared} {ι : List Addr} {a : Addr} {oa : Obj} {c : Nat} {p : Option AV} (I : Inv X pins σ H s) (h1 : KnO H a oa) (h2 : oa.cls = .ref (κ c)) (h3 : ∃ vs, oa.data = .fields vs) (h4 : ExcR X.K κ ι H oa p) (kc : KC X.K κ c) :
    ∃ P : Heap → Prop, PySem.W.KitX X.K (.ref a) (.ref (κ c)) P ∧ P s.heap := by
  obtain ⟨od, J⟩ := inst_of I h1 h2 h3 h4
  have hcl : (PySem.W.clsIn X.K (κ c)).isSome = true := by
    obtain ⟨cd, hc, _⟩ := PySem.W.any_some kc.ec.hd
    rw [hc]
    rfl
  exact ⟨_, PySem.W.kitx_exc (ox := oa) (od := od) hcl kc.ec.hg kc.ec.hk kc.ec.hs kc.ec.ha kc.ec.hn kc.ec.ht kc.ec.hm, J⟩
theorem ca_isx : CallA κ X (.builtin "isinstance") gIsiX := fun W tk pins s σ H xs us Q I r hh => by
  obtain ⟨σ0, ι, μ, as, sr, rl, h⟩ := id hh
  unfold gIsiX at h
  split at h <;> first | exact False.elim h | skip
  · rename_i v d
    split at h <;> first | exact False.elim h | skip
    rename_i c p eX
    cases rl with
    | cons r1 r2 =>
      cases r2 with
      | cons r2 r3 =>
        cases r3
        cases r2 with
        | obj _ hd =>
          obtain ⟨q, oa, rfl, h1, h2, h3, h4, kc⟩ := stX_rel sr r1 eX
          obtain ⟨u1, u2, rfl, q1, q2⟩ := vals2 r
          cases (show u1 = Value.ref q from q1)
          cases (show u2 = Value.ref (κ d) from q2)
          obtain ⟨P, Z, hp⟩ := kit_exc I h1 h2 h3 h4 kc
          exact PySem.W.kia_one Z I.kIn hp (kit_sub kc hd) (fun z => nomatch z) fun tk => ⟨.bl (isub c d), H, I.tok tk, rfl, ok1 sr h (.bl _)⟩
  · rename_i v t
    split at h
    · rename_i c eX
      split at h <;> first | exact False.elim h | skip
      rename_i et
      subst et
      cases rl with
      | cons r1 r2 =>
        cases r2 with
        | cons r2 r3 =>
          cases r3
          cases r2
          obtain ⟨q, oa, rfl, h1, h2, h3, h4, kc⟩ := stX_rel (c := c.1) (p := c.2) sr r1 eX
          obtain ⟨u1, u2, rfl, q1, q2⟩ := vals2 r
          cases (show u1 = Value.ref q from q1)
          cases (show u2 = Value.type "ValueError" from q2)
          obtain ⟨P, Z, hp⟩ := kit_exc I h1 h2 h3 h4 kc
          exact PySem.W.kia_one Z I.kIn hp (kit_ve kc) (fun z => nomatch z) fun tk => ⟨.bl true, H, I.tok tk, rfl, ok1 sr h (.bl _)⟩
    · exact ca_isi W tk pins s σ H xs us Q I r ⟨σ0, ι, μ, _, sr, rl, h⟩

theorem DE.cname {x : Str} {d : Nat} (hd : Pres X.K (κ d)) (hg : Gl X x) (hm : X.mg x = some (.ref (κ d))) (hdb : (x == ("__debug__" : Str)) = false := by decide) : DE κ X (.Name x pos) (eC (.obj d)) :=
  .con (x := .ref (κ d)) ⟨fun pins s σ H Q I h => ld_glob I hg hm ⟨.ref (κ d), H, I, rfl, h⟩ hdb⟩ fun _ _ => .obj d hd
def eVal (r : AE) : AE := fun ρ μ => (r ρ μ).bind fun v μ1 => match stX μ1 v with
  | some (_, some p) => .ok p μ1
  | _ => .bad
theorem DE.val (he : DE κ X e r) (hb : attributeBase e "value" X.env (eval e X.env) = eval e X.env := by rfl) : DE κ X (.Attribute e "value" pos) (eVal r) := fun W tk => by
  obtain ⟨t, q, i⟩ := he W tk
  refine ⟨fun σ H Q => t σ H fun x H1 => ∃ (a C d : Addr) (oa od : Obj) (v : V), x = .ref a ∧ KnO H1 a oa ∧ oa.cls = .ref C ∧ (∃ vs, oa.data = .fields vs) ∧ oa.dict = some d ∧ KnO H1 d od ∧ XDict od v ∧ ExcC X.K C ∧ PySem.W.findIn X.K (.ref C) "value" = some none ∧ Q v H1, ⟨fun pins s σ H Q I h => ?_⟩, fun σ H Q ι ρ μ sr rl h => ?_⟩
  · refine attr_of hb (thn (q.run pins s σ H _ I h) fun u s1 hh => ?_)
    obtain ⟨x, H1, I1, rx, a, C, d, oa, od, v, ex, k1, h2, ⟨vs, h3⟩, h4, k2, xo, ec, nv, q⟩ := hh
    subst ex
    obtain rfl : u = Value.ref a := rx
    have hd := kn_get I1.hok k2
    obtain ⟨mA, hns, hr⟩ := xo _ _ hd
    obtain ⟨od', ho, hl⟩ := lookIn_ns hns
    obtain rfl : od = od' := Option.some.inj (hd.symm.trans ho)
    have l : List.lookup ("value" : Str) [(("value" : Str), v)] = some v := by simp [List.lookup]
    obtain ⟨u, hu, ru⟩ := RelO.some_of (v := v) (o := mA "value") (by rw [← l]; exact hr "value")
    have J : PySem.W.InstAt s1.heap a oa C (some od) := ⟨kn_get I1.hok k1, h2, by unfold PySem.W.notCls; rw [h3] <;> rfl, by rw [h4]; exact hd⟩
    exact HandSPX.exc_get I1.kIn J ec.hg ec.hk ec.hs (PySem.W.findObj_own ec.hd nv rfl (by rw [hl, hu])) (handed_of ru) ⟨v, H1, I1.tok _, ru, q⟩
  · refine i σ H _ ι ρ μ sr rl (PG.bind h fun v μ1 ι1 H1 p1 m1 sr1 h1 x rx => ?_)
    split at h1 <;> first | exact False.elim h1 | skip
    rename_i c p eX
    obtain ⟨a, oa, ex, k1, h2, h3, ⟨d, od, y, h4, k2, xo, ry⟩, kc⟩ := stX_rel sr1 rx eX
    exact ⟨a, κ c, d, oa, od, y, ex, k1, h2, h3, h4, k2, xo, kc.ec, kc.nv, ok1 sr1 h1 ry⟩
end
end Lr


namespace Lr
open PySem PySem.Spec L2
open PyProof.Rows hiding St
section
variable {κ : Kap} {X : Cx} {a b c e o tg : Expr} {ra rb rc r : AE} {pos p2 pos' : Pos} {k : Nat} {es : List Expr} {rs : AA}

def enumA (xs : List AV) : List AV := xs.mapIdx fun i x => AV.tup [.int (i : Nat), x]
theorem enumA_get (xs : List AV) (i : Nat) : (enumA xs)[i]? = xs[i]?.map fun x => AV.tup [.int (i : Nat), x] := by
  unfold enumA
  rw [List.getElem?_mapIdx]
theorem HW.trans {H H1 H2 : Hp} (a : HW H H1) (b : HW H1 H2) : HW H H2 := ⟨fun c x h => b.tup _ _ (a.tup c x h), fun c o u h => b.frz _ _ _ (a.frz c o u h)⟩
theorem HV.tm {ι ι1 ι2 : List Addr} {H H1 H2 : Hp} (a : HV ι H ι1 H1) (b : HM ι1 H1 ι2 H2) : HV ι H ι2 H2 := ⟨a.pre.trans b.pre, a.w.trans b.w⟩
theorem JR.enum {K : PySem.W.Frag} {ι : List Addr} {H : Hp} {xs : List AV} {vs : List V} {p : Addr} (hq : FzL K H p vs) (rl : RelL K κ ι H xs vs) : JR K κ ι H (.dat (enumA xs)) (Ite K p) := fun i ι' H' μ hm sr => by
  simp only [Src.at, enumA_get]
  cases e : xs[i]? with
  | none => exact ⟨vs, (hm.w.fz hq).sq, by rw [← rl.length]; exact List.getElem?_eq_none_iff.mp e⟩
  | some v =>
    obtain ⟨x, ex, rx⟩ := rl.get e
    refine ⟨⟨vs, x, (hm.w.fz hq).sq, ex⟩, fun y H2 hy => ?_⟩
    obtain ⟨T, x', rfl, hT, rfl, h⟩ := hy
    have z := h vs (hm.w.fz hq).sq
    rw [ex] at z
    cases z
    have m2 : HM ι' H' ι' (upd H' T (.tup [.int (i : Nat), x])) := HM.fresh hT
    exact ⟨m2, sr.new hT, .tup (.inl (.inl upd_same)) (.cons (.int _) (.cons (rx.monoW hm.pre (hm.w.trans m2.w)) .nil))⟩
def iEnumA (r : AA) : AI := fun ρ μ => (r ρ μ).bind fun xs μ1 => match xs with
  | [.lst xs] => .ok (.dat (enumA xs)) μ1
  | _ => .bad
theorem DI.enum {elts : List Expr} {kk : Nat} {tpos p : Pos} (hg : Gl X "enumerate") (hm : X.mg "enumerate" = none) (ha : DA κ X [a] rs) (hs : starEach [a] X.env = [(false, eval a X.env)] := by rfl) : DI κ X (.Tuple elts kk tpos) (.Call (.Name "enumerate" p) [a] [] pos) (iEnumA rs) := fun W tk => by
  obtain ⟨t, p, i⟩ := ha W tk
  refine ⟨_, pi_enum hg hm p hs, fun σ H R ι ρ μ sr rl h => ?_⟩
  refine i σ H _ ι ρ μ sr rl (PG.bind0 h fun xs μ1 ι1 H1 p1 m1 sr1 h1 vs rv => ?_)
  split at h1 <;> first | exact False.elim h1 | skip
  rename_i ys
  cases rv with
  | cons ry rn =>
    cases rn
    cases ry with
    | lst hq rl => exact ⟨_, _, rfl, hq.sq, h1 ι1 H1 p1 m1 sr1 _ (JR.enum hq rl)⟩


def aRep (a b : AE) : AA := fun ρ μ => (a ρ μ).bind fun x μ1 => (b ρ μ1).bind fun y μ2 => match lsOf μ2 x, y with
  | some xs, .int k => if decide (0 ≤ k) && decide (k ≤ 1000) && decide (xs.length ≤ 1000) then .ok (List.replicate k.toNat xs).flatten μ2 else .bad
  | _, _ => .bad
theorem op_repR : OpR X (binaryOp .Mult) (fun x y H Q => ∃ l k xs, x = .ref l ∧ y = .int k ∧ Rd H l (.lst xs) ∧ -(2 ^ 63) ≤ k ∧ k < 2 ^ 63 ∧ xs.length * k.toNat ≤ sizeLine ∧ ∀ p, H p = none → Q (.ref p) (upd H p (.lst (List.replicate k.toNat xs).flatten))) := by
  intro pins s σ H x y v u Q I rx ry h
  obtain ⟨l, k, xs, rfl, rfl, hH, h1, h2, hz, q⟩ := h
  cases rx
  obtain ⟨t, rfl⟩ := ry
  obtain ⟨its, n, r, e, z⟩ := sq_at (K := X.K) I hH
  have hl := r.length
  have hlen : its.toArray.size * k.toNat ≤ sizeLine := by rw [List.size_toArray, ← hl]; exact hz
  have hcap : ¬ its.toArray.size * k.toNat > (2 ^ 63 - 1) / 8 := by
    have : (sizeLine : Nat) ≤ (2 ^ 63 - 1) / 8 := by decide
    omega
  have hfit : ¬ (!Builtin.List.listFitsIndex k) = true := by
    rw [fitsIndex_both h1 h2]
    exact Bool.false_ne_true
  have hlong : ¬ Builtin.List.listTooLong (its.toArray.size * k.toNat) = true := by
    rw [notLongL hlen]
    exact Bool.false_ne_true
  have hnew : List.foldl (fun x1 x2 => x1 ++ x2) #[] (List.replicate (if its.toArray.isEmpty = true then 0 else k.toNat) its.toArray) = (List.replicate k.toNat its).flatten.toArray := by
    have f0 : ∀ m : Nat, List.foldl (fun x1 x2 => x1 ++ x2) #[] (List.replicate m its.toArray) = (List.replicate m its).flatten.toArray := fun m => by
      have := foldl_rep its m []
      rw [List.nil_append] at this
      exact this
    rw [f0]
    cases its with
    | nil => simp
    | cons a r' => rw [if_neg (by simp)]
  refine wpAny_binaryOp_repeat_ref (T := "list") (U := "int") (by decide) ⟨_, e, rfl⟩ (fun s' => typeIs_int s' k t) noFill_list_mul F.fills_int_mul F.slot_int_rmul repeat_list F.slot_int_index.lookup
    (call_meets F.slot_int_rmul (typeIs_int s k t) F.entry_int_rmul (F.args_int_rmul_2 _ _) (int___rmul___int_list k t l its.toArray n)
      ⟨e, rfl, ⟨_, e, rfl⟩, call_meets F.slot_list_mul ⟨_, e, rfl⟩ F.entry_list_mul (F.args_list_mul_2 _ _) (AutoListH.list___mul___list_int_3 l its.toArray n k t hfit hcap hlong) ⟨e, ?_⟩⟩)
  rw [hnew]
  exact ⟨.ref _, _, I.lnew (t' := s.toks) (r.rep k.toNat) (by rw [PyProof.Rows.lm_len_rep_flat, Nat.mul_comm]; exact hz), rfl, q _ I.fresh⟩
theorem DN.rep (cl : Cl X k) (ha : DE κ X a ra) (hb : DE κ X b rb) : DN κ X (.BinOp a .Mult b pos) (aRep ra rb) := DN.mk cl fun W tk => by
  obtain ⟨t1, p1, i1⟩ := ha W tk
  obtain ⟨t2, p2, i2⟩ := hb W tk
  refine ⟨_, pe_op op_repR p1 p2, fun σ H Q ι ρ μ sr rl h => ?_⟩
  refine i1 σ H _ ι ρ μ sr rl (PG.bind0 h fun x μ1 ι1 H1 p1 m1 sr1 h1 xv rx => ?_)
  refine i2 σ H1 _ ι1 ρ μ1 sr1 (rl.mono p1 m1) (PG.bindF m1 h1 fun y μ2 ι2 H2 p2 m2 sr2 h2 yv ry => ?_)
  split at h2 <;> first | exact False.elim h2 | skip
  rename_i xs j e1
  by_cases hz : (decide (0 ≤ j) && decide (j ≤ 1000) && decide (xs.length ≤ 1000)) = true
  · rw [if_pos hz] at h2
    simp only [Bool.and_eq_true, decide_eq_true_eq] at hz
    obtain ⟨⟨z1, z2⟩, z3⟩ := hz
    obtain ⟨q1, vs1, rfl, d1, r1⟩ := ls_rd sr2 (rx.mono p2 m2) e1
    cases ry
    refine ⟨q1, j, vs1, rfl, rfl, d1, by omega, by omega, ?_, fun p hn => okNew sr sr2 (m1.trans m2) h2 (r1.rep _) hn⟩
    rw [line16, ← r1.length]
    have : j.toNat ≤ 1000 := by omega
    calc xs.length * j.toNat ≤ 1000 * 1000 := Nat.mul_le_mul z3 this
      _ ≤ 16777216 := by decide
  · rw [if_neg hz] at h2
    exact False.elim h2
end
end Lr


namespace Lr
open PySem PySem.Spec L2
open PyProof.Rows hiding St


def clsB : Stmt → List Stmt
  | .ClassDef (body := b) .. => b
  | _ => []
abbrev veT : List Value := [.type "ValueError", .type "Exception", .type "BaseException", .type "object"]

def kap (L : List (Nat × Addr)) (Z : Addr) (d : Nat) : Addr := (L.lookup d).getD Z

structure XCf (K : PySem.W.Frag) (C : Addr) (bm : List Value) : Prop where
  xL : ∃ nm q N bs sn sub ab col dd k0 k1 k2 k3 k5, K.lookup C = some (excClassObj nm q C N bs bm true sn sub ab col dd k0 k1 k2 k3 k5 "ValueError.__new__")
  sa : PySem.W.findIn K (.ref C) "__setattr__" = some (some (.builtin "object.__setattr__"))
  ga : PySem.W.findIn K (.ref C) "__getattribute__" = some (some (.builtin "BaseException.__getattribute__"))
  gg : PySem.W.findIn K (.ref C) "__getattr__" = some none
  nv : PySem.W.findIn K (.ref C) "value" = some none
  cc : PySem.W.findIn K (.ref C) "__class__" = some (some (.builtin "object.__class__"))
  kC : PySem.W.keepIn K (.ref C) = true
  tC : PySem.W.typeIn K (.ref C) = some (.type "type")

structure XCg (K : PySem.W.Frag) : Prop where
  hn : PySem.W.specialIn K (.builtin "object.__class__") "__get__" = some (some (.builtin "getset_descriptor.__get__"))
  ht : PySem.W.takesIn K (.builtin "object.__class__") = some true
section
variable {K : PySem.W.Frag} {C : Addr} {bm : List Value}
theorem XCf.cls (f : XCf K C bm) : ∃ cd, PySem.W.clsIn K C = some cd ∧ cd.mro = .ref C :: bm ∧ cd.hasDict = true := by
  obtain ⟨nm, q, N, bs, sn, sub, ab, col, dd, k0, k1, k2, k3, k5, h⟩ := f.xL
  refine ⟨{ name := nm, bases := bs, mro := .ref C :: bm, ns := N, qualname := q, hasDict := true, slotNames := sn, subclasses := sub, abstract := ab, collection := col, hasDel := false }, ?_, rfl, rfl⟩
  unfold PySem.W.clsIn
  rw [h] <;> rfl
theorem XCf.mro (f : XCf K C bm) (b : Value) : PySem.W.mroIn K C b = some ((Value.ref C :: bm).contains b) := by
  obtain ⟨cd, h, hm, _⟩ := f.cls
  unfold PySem.W.mroIn
  rw [h, Option.bind_some, hm]
  rfl
theorem XCf.oex (f : XCf K C bm) (hbm : PySem.HandSPX.refsVE bm = true) : OexC K C := by
  obtain ⟨nm, q, N, bs, sn, sub, ab, col, dd, k0, k1, k2, k3, k5, h⟩ := f.xL
  exact ⟨⟨nm, q, N, bs, bm, sn, sub, ab, col, dd, k0, k1, k2, k3, k5, h, hbm⟩, f.sa, by
    show PySem.W.mroIn K C _ = _
    rw [f.mro]
    exact congrArg some ((PySem.HandSPX.refsVE_contains "BaseException" (.ref C :: bm) hbm).trans (by decide +kernel)), f.tC, f.kC⟩
theorem XCf.has (f : XCf K C bm) (hbm : PySem.HandSPX.refsVE bm = true) (T : String) (h : veT.contains (.type T) = true) : PySem.W.mroIn K C (.type T) = some true := by
  rw [f.mro]
  exact congrArg some ((PySem.HandSPX.refsVE_contains T (.ref C :: bm) hbm).trans h)
theorem XCf.pres (f : XCf K C bm) (hbm : PySem.HandSPX.refsVE bm = true) : Pres K C := by
  obtain ⟨cd, h, _, _⟩ := f.cls
  exact ⟨by rw [h]; rfl, f.tC, f.has hbm "BaseException" (by decide +kernel)⟩
end

def xbm (C0 : Addr) (c : Nat) : List Value := if c = 0 then veT else .ref C0 :: veT
theorem xbm_ve (C0 : Addr) (c : Nat) : PySem.HandSPX.refsVE (xbm C0 c) = true := by
  unfold xbm
  split
  · rfl
  · rfl
theorem veT_ref (D : Addr) : veT.contains (.ref D) = false := by
  simp [veT]
section
variable {K : PySem.W.Frag} {L : List (Nat × Addr)} {Z C0 C : Addr} {c : Nat} {TT : List (Addr × Str)}
theorem lookup_mem {L : List (Nat × Addr)} {d : Nat} {D : Addr} (h : L.lookup d = some D) : (d, D) ∈ L := by
  induction L with
  | nil => cases h
  | cons p l ih =>
    obtain ⟨e, E⟩ := p
    rw [List.lookup_cons] at h
    split at h
    · rename_i q
      cases h
      have e' : d = e := by simpa using q
      rw [e']
      exact List.mem_cons_self
    · exact List.mem_cons_of_mem _ (ih h)

theorem two_of {L : List (Nat × Addr)} (h1 : (L.map (·.1)).Nodup) (h2 : (L.map (·.2)).Nodup) {p q : Nat × Addr} (hp : p ∈ L) (hq : q ∈ L) : p.1 = q.1 ↔ p.2 = q.2 := by
  obtain ⟨i, hi, rfl⟩ := List.mem_iff_getElem.mp hp
  obtain ⟨j, hj, rfl⟩ := List.mem_iff_getElem.mp hq
  constructor
  · intro e
    have := (List.getElem_inj (xs := L.map (·.1)) (i := i) (j := j) (h₀ := by simpa using hi) (h₁ := by simpa using hj) h1).mp (by simpa using e)
    subst this
    rfl
  · intro e
    have := (List.getElem_inj (xs := L.map (·.2)) (i := i) (j := j) (h₀ := by simpa using hi) (h₁ := by simpa using hj) h2).mp (by simpa using e)
    subst this
    rfl
theorem kc_of (g : XCg K) (h1 : (L.map (·.1)).Nodup) (h2 : (L.map (·.2)).Nodup) (h0 : (0, C0) ∈ L) (hZ : PySem.W.clsIn K Z = none) (hc : (c, C) ∈ L) (hk : kap L Z c = C) (f : XCf K C (xbm C0 c)) : KC K ⟨kap L Z, TT⟩ c := by
  have hv := xbm_ve C0 c
  obtain ⟨cd, hcd, _, hdct⟩ := f.cls
  refine ⟨?_, fun d hd => ?_, ?_, by show PySem.W.findIn K (.ref (kap L Z c)) _ = _; rw [hk]; exact f.nv⟩
  · show ExcC K (kap L Z c)
    rw [hk]
    exact ⟨f.ga, f.gg, f.has hv "BaseException" (by decide +kernel), by unfold PySem.W.hasDictIn; rw [hcd]; exact hdct, f.cc, g.hn, g.ht, f.has hv "object" (by decide +kernel)⟩
  · have hd : Pres K (kap L Z d) := hd
    show PySem.W.subIn K (.ref (kap L Z c)) (.ref (kap L Z d)) = some (isub c d)
    rw [hk]
    cases e : L.lookup d with
    | none =>
      have hd1 := hd.1
      unfold kap at hd1
      rw [e] at hd1
      simp only [Option.getD_none] at hd1
      rw [hZ] at hd1
      cases hd1
    | some D =>
      have ek : kap L Z d = D := by unfold kap; rw [e]; rfl
      rw [ek]
      have hD := lookup_mem e
      have t1 := two_of h1 h2 hD hc
      have t0 := two_of h1 h2 hD h0
      have tc0 := two_of h1 h2 hc h0
      simp only at t1 t0 tc0
      show PySem.W.mroIn K C (.ref D) = some (isub c d)
      rw [f.mro]
      refine congrArg some ?_
      unfold xbm isub
      by_cases z : c = 0
      · rw [if_pos z, List.contains_cons, veT_ref, Bool.or_false]
        by_cases q : d = 0
        · have : D = C := t1.mp (q.trans z.symm)
          subst this
          simp [q]
        · have : ¬ D = C := fun w => q ((t1.mpr w).trans z)
          have w2 : (Value.ref D == Value.ref C) = false := by simpa using this
          rw [w2]
          simp [q, z]
          omega
      · rw [if_neg z, List.contains_cons, List.contains_cons, veT_ref, Bool.or_false]
        by_cases q1 : d = c
        · have : D = C := t1.mp q1
          subst this
          simp [q1]
        · have n1 : (Value.ref D == Value.ref C) = false := by simpa using fun w => q1 (t1.mpr w)
          rw [n1]
          by_cases q2 : d = 0
          · have : D = C0 := t0.mp q2
            subst this
            simp [q2]
          · have n2 : (Value.ref D == Value.ref C0) = false := by simpa using fun w => q2 (t0.mpr w)
            rw [n2]
            simp [q2]
            omega
  · show PySem.W.subIn K (.ref (kap L Z c)) _ = _
    rw [hk]
    exact f.has hv "ValueError" (by decide +kernel)
end
end Lr


namespace Lr
open PySem PySem.Spec L2
open PyProof.Rows hiding St
section
variable {κ : Kap} {X : Cx} {e : Expr} {rs : AA} {k c : Nat} {fI : Addr} {fd : FuncData} {x : Str} {p pos pos2 : Pos}
theorem upd_del {H : Hp} {a d : Addr} {o1 o2 o3 o4 : HO} (h : d ≠ a) (hn : H a = none) : L2.upd (L2.del (L2.upd (L2.upd (L2.upd H a o1) d o2) a o3) a) d o4 = L2.upd H d o4 := by
  funext b
  by_cases hd : b = d
  · rw [hd, upd_same, upd_same]
  · rw [upd_ne hd, upd_ne hd]
    by_cases ha : b = a
    · rw [ha, del_same, hn]
    · rw [del_ne ha, upd_ne ha, upd_ne hd, upd_ne ha]

theorem pmk_kn {t : St → Hp → XK → Prop} (h : PMk X e t) : PMk X e (fun σ H Q => t σ H fun cls d H' => ∃ dx v, d = some dx ∧ H' dx = some (.xd [(("value" : Str), v)]) ∧ ∀ od, XDict od v → Q cls d (upd H' dx (kn dx od))) := by
  intro pins s σ H Q I ht
  refine wpAny_mono (h pins s σ H _ I ht) (fun u s' hu => ?_) fun _ _ x => x
  obtain ⟨a, oe, vs, sI, H', cls, d, rfl, J, k, hne, ha, hz, hd, h1, na, os, ag, r, dx, v, ed, hx, q⟩ := hu
  obtain ⟨od, xo, J2⟩ := inv_xd J hx
  have hn : dx ≠ a := fun z => by rw [z, na] at hx; cases hx
  exact ⟨a, oe, vs, sI, _, cls, d, rfl, J2, k, hne, ha, hz, hd, h1, by rw [upd_ne (Ne.symm hn)]; exact na, os, ag, r, q od xo⟩
theorem upd2 {H : Hp} {d : Addr} {o1 o2 : HO} : upd (upd H d o1) d o2 = upd H d o2 := up2
def sRaise (c : Nat) (r : AA) : AS := fun ρ μ => (r ρ μ).out ρ fun as μ1 => match as with
  | [v] => .ex c (some v) ρ μ1
  | _ => .bad
theorem DS.raise (kc : KC X.K κ c) (cl : Cl X k) (h3 : 3 ≤ k) (T : OexC X.K (κ c)) (iC : PySem.W.findIn X.K (.ref (κ c)) "__init__" = some (some (.ref fI))) (tI : PySem.W.typeIn X.K (.ref fI) = some (.type "function"))
    (F1 : FnOk X.prog X.w X.K X.mg X.base (L2.CX X.prog X.w) 2 fI fd ["self", "value"] (spX X.K (κ c))) (hb : Binds X.K fd ["self", "value"] []) (hg : Gl X x) (hm : X.mg x = some (.ref (κ c))) (ha : DA κ X [e] rs)
    (hdb : (x == ("__debug__" : Str)) = false := by decide) (he : starEach [e] X.env = (false, eval e X.env) :: starEach [] X.env := by rfl) (hpl : (backTo pos (starEach [] X.env)).any (·.1) = false := by rfl) :
    DS κ X (.Raise (some (.Call (.Name x p) [e] [] pos)) none pos2) (sRaise c rs) := fun W tk => by
  obtain ⟨t, q, i⟩ := ha W tk
  refine ⟨_, ps_raise cl.calm tk (pmk_kn (pmk_oex T iC tI F1 (cl.room.mono h3) hb .nil (fun pins σ H s e s' I z => by obtain ⟨_, _, _, _, _, _, _, _, _, _, _, _, z⟩ := z; exact False.elim z) hg hm q hdb he hpl)), fun D σ H ι ρ μ sr rl h => ?_⟩
  refine i σ H _ ι ρ μ sr rl (PO'.bind rl h fun as μ1 ι1 H1 p1 m1 sr1 h1 vs rv => ?_)
  split at h1 <;> first | exact False.elim h1 | skip
  rename_i y
  cases rv with
  | cons ry rn =>
    cases rn
    rename_i v
    refine ⟨by simp, fun a hn => ⟨a, v, by simp, T, kc.nv, upd_same, fun d hd hne => ⟨rfl, d, _, upd_same, by rw [upd_ne hne, upd_same], by rw [upd_ne hne] at hd; exact hd, d, v, rfl, upd_same, fun od xo => ?_⟩⟩⟩
    rw [upd_ne hne] at hd
    rw [upd_del hne hn, upd2]
    have m2 : HM ι1 H1 ι1 (L2.upd H1 d (kn d od)) := HM.fresh hd
    exact h1 ι1 _ σ (some d) (List.prefix_refl _) m2 (sr1.new hd) ((rl.mono p1 m1).mono (List.prefix_refl _) m2) ⟨kc, d, od, v, rfl, upd_same, xo, ry.mono (List.prefix_refl _) m2⟩
end


def wKp (K : PySem.W.Frag) (c : Value) (i j : Nat) (Wout : WX) (D : Ends) : WX := fun cls d σ H =>
  ∃ b, PySem.W.exmOne K cls c = some b ∧ (b = true → ∀ a oe, H a = none → oe.cls = cls → oe.dict = d → (∃ vs, oe.data = .fields vs) → D.nx (((σ.set i (some (.ref a))).set j (some (.ref a))).set i none) (upd H a (kn a oe))) ∧
    (b = false → Wout cls d σ H)
section
variable {X : Cx} {x n y : Str} {c : Value} {i j : Nat} {body : List Stmt} {np pos pos' q1 q2 q3 : Pos} {tb : WX → TS} {Wout : WX}
theorem ps_try_keep (hs : X.stack = X.env :: X.outer) (hf : X.env.frame = some X.env.locals) (hex : X.ex = []) (hN : X.N.Nodup) (hi : X.N[i]? = some n) (hj : X.N[j]? = some y) (hln : X.env.kindOf n = some .local) (hly : X.env.kindOf y = some .local) (hc : Names X x c) (tk : Takes X Wout)
    (hb : ∀ (W : WX) (pn : List (Addr × Obj)) (xe : Value → Shared → Prop), Takes (X.tr pn xe) W → PassesOwn (model X.prog X.w) X.A X.env xe → PSs (X.tr pn xe) body (tb W))
    (hdb : (n == ("__debug__" : Str)) = false := by decide) (hcd : (n == ("__classdict__" : Str)) = false := by decide)
    (hsw : ∀ (A : Addr) (pn : List (Addr × Obj)), swapsWith (.Name n q2) (some (.Name y q1)) q3.line (X.suite A pn).env = pure false := by intro _ _; rfl) :
    PS X (.Try body [.ExceptHandler (some (.Name x np)) (some n) [.Assign [.Name y q1] (.Name n q2) q3] pos'] [] [] pos) (fun D σ H => tb (wKp X.K c i j Wout D) D σ H) := by
  refine ⟨fun pins s σ H D I h => ?_⟩
  have ok := I.ok
  have hfr : X.A.frames = some (X.env :: X.outer) := by rw [ok.frames, hs]
  have hloc : L2.Loc X.env.scope n := .inl hln
  refine wpAny_Try_except ?_
  refine wpAny_mono ((hb (wKp X.K c i j Wout D) (X.pn ++ pins) (fun e s₁ => wpAny (model X.prog X.w) X.A (noteFrame e X.env) (fun _ s₂ => wpAny (model X.prog X.w) X.A (setFlight e none) (fun _ s₃ =>
    wpAny (model X.prog X.w) X.A (handleBy e X.env [.ExceptHandler (some (.Name x np)) (some n) [.Assign [.Name y q1] (.Name n q2) q3] pos']) (SP X pins D) X.xe s₃) X.xe s₂) X.xe s₁) (fun u s' xx => ?_) PassesOwn.looking).run [] s σ H D (I.toTry _) h) (fun f s1 hsp => ?_) (fun e s1 he => he)
  · -- the catch
    obtain ⟨a, B, sI, pins', σ', H', cls, d, rfl, J', nb, up, sky, na, os, ag, b, hb1, hyes, hno⟩ := xx
    have J : Inv X pins σ' H' sI := J'.ofTry ok
    have sky' : Sky B (X.env :: X.outer) a (Zc cls d) X.env.locals s'.heap := by rw [← hs]; exact sky
    show wpAny (model X.prog X.w) X.A (noteFrame (.ref a) X.env) _ _ _
    refine Sky.land Zc.steady hfr hf sky' fun h3 fl3 up3 => ?_
    have J3 : Inv X pins σ' H' { s' with heap := h3 } := J.landed nb fl3.1 (up.trans up3) os ag
    obtain ⟨oe3, vs3, he3, hz3, hd3⟩ := fl3.there
    have notFr : ∀ {h : Heap} {o : Obj} {vs : Array Value}, h.FunFrames B (X.env :: X.outer) → h.get? a = some o → o.data = .fields vs → a ∉ frs (X.env :: X.outer) := fun {h o vs} ff e dd hm => by
      obtain ⟨_, o', e', hnf⟩ := ff.mem hm
      rw [e] at e'; cases e'
      exact hnf _ dd
    have nfr := notFr fl3.2.2.1 he3 hd3
    have nL : a ≠ X.env.locals := fun z => nfr (List.mem_filterMap.mpr ⟨X.env, List.mem_cons_self, by rw [hf, z]⟩)
    have nF : a ∉ X.fs := fun hm => by
      obtain ⟨e, he, q⟩ := List.mem_filterMap.mp hm
      exact nfr (List.mem_filterMap.mpr ⟨e, List.mem_cons_of_mem _ he, q⟩)
    have nI : sI.heap.get? a = none := by
      cases e : sI.heap.get? a with
      | none => rfl
      | some o =>
        have z := nb a o e (by rw [hs]; exact nfr)
        rw [fl3.2.1] at z
        cases z
    have n0 : X.s_0.heap.get? a = none := by
      cases e : X.s_0.heap.get? a with
      | none => rfl
      | some o =>
        obtain ⟨o', z⟩ := J.base.there a o e (by rw [hex]; exact fun z => nomatch z)
        rw [nI] at z
        cases z
    have nc : ∀ x c, X.env.cells.lookup x = some c → c ≠ a := fun x c e z => by
      obtain ⟨v, o, h1, _⟩ := J.cell x c e
      rw [z, nI] at h1
      cases h1
    have np' : ∀ q ∈ X.pn ++ pins, q.1 ≠ a := fun q hq z => by
      obtain ⟨h1, _⟩ := J.pin q hq
      rw [z, nI] at h1
      cases h1
    have S3 := J3.suite he3 hd3 na nL nF
    refine wpAny_handleBy_cons (codeAny_handlers_test ?_) (by intro q; cases q)
    have LT : PySem.W.Looks (model X.prog X.w) h3 (typeOf (.ref a)) cls := fun A Q E s k q => wpAny_typeOf_ref (k _ _ he3) (by rw [hz3.1]; exact q)
    have LM := PySem.W.exm_one (M := model X.prog X.w) (J3.kIn) LT hb1
    have test : ∀ {Q : Value → Shared → Prop} {E : Value → Shared → Prop}, Q c { s' with heap := h3 } → wpAny (model X.prog X.w) (X.A.mark (some (.ref a))) (eval (.Name x np) X.env) Q E { s' with heap := h3 } := fun {Q E} q => by
      obtain ⟨hg, hdbg, hm | ⟨hm, hv, hnn⟩⟩ := hc
      · exact ld_glob (X := X.suite a ((a, oe3) :: (X.pn ++ pins))) S3 hg hm q hdbg
      · exact ld_blt (X := X.suite a ((a, oe3) :: (X.pn ++ pins))) S3 hg hm hv q hnn hdbg
    refine test (LM.here ?_)
    cases b with
    | true =>
      refine codeAny_handlers_suite_as ?_
      refine HandSPX.lands_againZ fl3 fun h4 fl4 up4 => ?_
      have J4 : Inv X pins σ' H' { s' with heap := h4 } := J.landed nb fl4.1 ((up.trans up3).trans up4) os ag
      obtain ⟨oe4, vs4, he4, hz4, hd4⟩ := fl4.there
      have J5 : Inv X ((a, oe4) :: pins) σ' H' { s' with heap := h4 } := J4.pins_of fun q hq => by
        rcases List.mem_cons.mp hq with e | hq
        · rw [e]
          exact ⟨he4, na, nL, nF, fun v z => by have z' : oe4.data = .cell v := z; rw [hd4] at z'; cases z'⟩
        · exact J4.pin q (List.mem_append_right _ hq)
      have S4 := J5.suite he4 hd4 na nL nF
      refine store_ok (X := X.suite a ((a, oe4) :: (X.pn ++ ((a, oe4) :: pins)))) (v := .ref a) S4 hN hi hloc rfl (fun s5 S5 => ?_) (.inr hln)
      have hil : i < σ'.length := by rw [J.len]; exact (List.getElem?_eq_some_iff.mp hi).1
      have R : PSs (X.suite a ((a, oe4) :: (X.pn ++ ((a, oe4) :: pins)))) [.Assign [.Name y q1] (.Name n q2) q3] (tAsg (tVar i) (gName j)) := pss_one (ps_set hN hj (.inl hly) (pe_var hi (.inl hln) hdb hcd) (hsw a _) (.inr hly))
      refine wpAny_mono (R.run [] s5 _ H' { nx := fun σ6 H6 => σ6 = (σ'.set i (some (.ref a))).set j (some (.ref a)) ∧ H6 = H', rt := fun _ _ => False, bk := fun _ _ => False, ct := fun _ _ => False } S5 ⟨.ref a, by rw [List.getElem?_set_self hil], rfl, rfl⟩) (fun f s6 hsp => ?_) (fun _ _ z => False.elim z)
      cases f with
      | next =>
        obtain ⟨σ6, H6, S6, e6, e7⟩ := hsp
        subst e6 e7
        refine gone_ok (S6.unsuite ok) hN hi hln fun s7 J7 => ?_
        have J8 := inv_pin J7 n0 nc np'
        exact ⟨_, _, J8, hyes rfl a oe4 na hz4.1 hz4.2 ⟨_, hd4⟩⟩
      | brk =>
        obtain ⟨σ6, H6, S6, q6⟩ := hsp
        exact False.elim q6
      | cont =>
        obtain ⟨σ6, H6, S6, q6⟩ := hsp
        exact False.elim q6
      | ret u =>
        obtain ⟨v6, σ6, H6, S6, r6, q6⟩ := hsp
        exact False.elim q6
    | false =>
      show wpAny _ X.A (handleBy (.ref a) X.env []) _ _ _
      refine wpAny_handleBy_nil ?_
      obtain ⟨k1, k2, k3, oe, vs, T, oT, ts', he, hz, hd, h1, hr⟩ := id fl3
      unfold PySem.passOn
      refine wpAny_bind (wpAny_field he hd h1 ?_)
      rw [if_neg (show ¬ ((Value.ref T == Value.none) = true) from by simp)]
      have fin : wpAny (model X.prog X.w) X.A (setFlight (.ref a) X.env.frame) (fun _ s4 => wpAny (model X.prog X.w) X.A (throw (.ref a) : Sem Flow) (SP X pins D) X.xe s4) X.xe { s' with heap := h3 } := by
        rw [hf]
        refine HandSPX.setFlight_upZ fl3 fun h4 hh4 up4 => wpAny_throw (tk _ _ ?_)
        exact ⟨a, B, sI, pins, σ', H', cls, d, rfl, J, nb, (up.trans up3).trans up4, .inr (.inr (by rw [hs]; exact hh4)), na, os, ag, hno rfl⟩
      first
        | exact wpAny_bind (wpAny_pure (wpAny_bind fin))
        | exact wpAny_bind fin
  · cases f with
    | next =>
      obtain ⟨σ', H', J', q⟩ := hsp
      exact wpAny_execs_nil ⟨σ', H', J'.ofTry ok, q⟩
    | brk =>
      obtain ⟨σ', H', J', q⟩ := hsp
      exact ⟨σ', H', J'.ofTry ok, q⟩
    | cont =>
      obtain ⟨σ', H', J', q⟩ := hsp
      exact ⟨σ', H', J'.ofTry ok, q⟩
    | ret u =>
      obtain ⟨v, σ', H', J', r, q⟩ := hsp
      exact ⟨v, σ', H', J'.ofTry ok, r, q⟩
end

def sTry (d i j : Nat) (b : AS) : AS := fun ρ μ => match b ρ μ with
  | .ex c p ρ1 μ1 => if isub c d = true then .nx (((ρ1.set i (some (.loc μ1.length))).set j (some (.loc μ1.length))).set i none) (μ1 ++ [.exc c p]) else .ex c p ρ1 μ1
  | o => o
theorem RelS.wipe1 {K : PySem.W.Frag} {κ : Kap} {ι : List Addr} {H : Hp} {ρ : Loc} {σ : St} (r : RelS K κ ι H ρ σ) (i : Nat) : RelS K κ ι H (ρ.set i none) (σ.set i none) := by
  refine ⟨by simp [r.1], fun j v e => ?_⟩
  by_cases h : j = i
  · subst h
    by_cases hl : j < ρ.length
    · rw [List.getElem?_set_self hl] at e; cases e
    · rw [List.getElem?_eq_none (by simpa using hl)] at e; cases e
  · rw [List.getElem?_set_ne (Ne.symm h)] at e
    obtain ⟨x, e1, r1⟩ := r.2 j v e
    exact ⟨x, by rw [List.getElem?_set_ne (Ne.symm h)]; exact e1, r1⟩
section
variable {κ : Kap} {X : Cx} {x n y : Str} {d i j : Nat} {body : List Stmt} {b : AS} {np pos pos' q1 q2 q3 : Pos}
theorem DS.tryKeep (hs : X.stack = X.env :: X.outer) (hf : X.env.frame = some X.env.locals) (hex : X.ex = []) (hN : X.N.Nodup) (hi : X.N[i]? = some n) (hj : X.N[j]? = some y) (hln : X.env.kindOf n = some .local) (hly : X.env.kindOf y = some .local)
    (hd : Pres X.K (κ d)) (hg : Gl X x) (hm : X.mg x = some (.ref (κ d)))
    (hb : ∀ (pn : List (Addr × Obj)) (xe : Value → Shared → Prop), PassesOwn (model X.prog X.w) X.A X.env xe → DSs κ (X.tr pn xe) body b)
    (hx : (x == ("__debug__" : Str)) = false := by decide) (hdb : (n == ("__debug__" : Str)) = false := by decide) (hcd : (n == ("__classdict__" : Str)) = false := by decide)
    (hsw : ∀ (A : Addr) (pn : List (Addr × Obj)), swapsWith (.Name n q2) (some (.Name y q1)) q3.line (X.suite A pn).env = pure false := by intro _ _; rfl) :
    DS κ X (.Try body [.ExceptHandler (some (.Name x np)) (some n) [.Assign [.Name y q1] (.Name n q2) q3] pos'] [] [] pos) (sTry d i j b) := fun W tk => by
  refine ⟨_, ps_try_keep (c := .ref (κ d)) (i := i) (j := j) (Wout := W) (tb := fun W' => fun D σ H => ∃ (ι : List Addr) (ρ : Lr.Loc) (μ : Store), SR X.K κ ι μ H ∧ RelS X.K κ ι H ρ σ ∧ PO' X.K κ W' ι H D (b ρ μ)) hs hf hex hN hi hj hln hly ⟨hg, hx, .inl hm⟩ tk (fun W' pn xe tk' hp => ?_) hdb hcd hsw, fun D σ H ι ρ μ sr rl h => ⟨ι, ρ, μ, sr, rl, ?_⟩⟩
  · refine ⟨fun pins s σ H D I ⟨ι, ρ, μ, sr, rl, h⟩ => ?_⟩
    obtain ⟨t, q, im⟩ := hb pn xe hp W' tk'
    exact q.run pins s σ H D I (im D σ H ι ρ μ sr rl h)
  · unfold sTry at h
    cases eb : b ρ μ with
    | nx ρ1 μ1 => rw [eb] at h; exact h
    | rt v μ1 => rw [eb] at h; exact h
    | bk ρ1 μ1 => rw [eb] at h; exact h
    | ct ρ1 μ1 => rw [eb] at h; exact h
    | bad => rw [eb] at h; exact h
    | ex c p ρ1 μ1 =>
      rw [eb] at h
      simp only at h
      intro ι1 H1 σ1 d1 q1 m1 sr1 rl1 ex
      obtain ⟨kc, ex⟩ := id ex
      refine ⟨isub c d, kit_exm kc hd, fun hc a oe hn e1 e2 e3 => ?_, fun hc => ?_⟩
      · rw [if_pos hc] at h
        have m2 : HM ι1 H1 ι1 (L2.upd H1 a (kn a oe)) := HM.fresh hn
        have sr3 : SR X.K κ (ι1 ++ [a]) (μ1 ++ [.exc c p]) (L2.upd H1 a (kn a oe)) := by
          refine (sr1.new hn).alloc ⟨oe, upd_same, e1, e3, ?_, kc⟩ (sr1.notin hn) (by rw [upd_same]; simp) (by rw [upd_same]; trivial)
          cases p with
          | none => exact e2.trans ex
          | some v =>
            obtain ⟨dx, od, xv, ed, hx, xo, rv⟩ := ex
            exact ⟨dx, od, xv, e2.trans ed, m2.frz _ _ _ hx, xo, rv.mono (List.prefix_refl _) m2⟩
        have hr : Rel X.K κ (ι1 ++ [a]) (L2.upd H1 a (kn a oe)) (.loc μ1.length) (.ref a) := .loc (by rw [← sr1.len]; simp)
        have m4 : HM ι1 H1 (ι1 ++ [a]) (L2.upd H1 a (kn a oe)) := m2.more hn
        exact h (ι1 ++ [a]) _ _ (q1.trans (List.prefix_append _ _)) (m1.trans m4) sr3 (((rl1.mono (List.prefix_append _ _) m4).set hr).set hr |>.wipe1 i)
      · rw [if_neg (by rw [hc]; simp)] at h
        exact h ι1 H1 σ1 d1 q1 m1 sr1 rl1 ⟨kc, ex⟩
end
end Lr

set_option maxHeartbeats 2000000

namespace LamX
open PySem PySem.Spec PyProof.Rows L2
section
variable {X : Cx} {pins : List (Addr × Obj)} {σ : L2.St} {H HZ : Hp} {s s1 : Shared}
theorem lam_make3 {T : List (Addr × Str)} {c P : Addr} {params : Arguments} {body : Expr} {scope : Scope} {pos : Pos} {E : Value → Shared → Prop} {Q : Value → Shared → Prop} (I : Inv X pins σ H s) (TB : TabB X.base X.mg c P) (hcode : X.env.code = .ref c)
    (hm : (P, X.env.qual ++ "<lambda>") ∈ T) (hu : ∀ p ∈ T, p.1 = P → p.2 = X.env.qual ++ "<lambda>") (hT : Tabs T H) (hdef : defaultsOf params X.env = ([], [])) (hfree : ∀ y ∈ scope.names, y.2 = .free → ∃ c, X.env.cells.lookup y.1 = some c)
    (h : ∀ (f c' : Addr) (pm ctv : Value) (H1 : Hp) (s' : Shared), Inv X pins σ H1 s' → ExtN H H1 → Tabs T H1 →
      s'.heap.get? f = some (PySem.W.kla_obj "<lambda>" (X.env.qual ++ "<lambda>") params body scope (cloFrom X.env.cells scope.names []) pm c' ctv) → H1 f = none → f ∉ frs X.stack → H1 c' = some (CodeO c' (X.env.qual ++ "<lambda>")) → (∀ b ps, H b = some (.tbl ps) → ∃ qs, H1 b = some (.tbl qs)) → Q (.ref f) s') :
    wpAny (model X.prog X.w) X.A (eval (.Lambda params body scope pos) X.env) Q E s := by
  obtain ⟨ps, hP, ht, ha⟩ := hT _ hm
  refine PySem.W.kla_eval hdef ?_
  have bP : s.heap.BuiltinsAt X.mg P := TB.bm.keeps I.bk
  have hP' : s.heap.get? P = some { cls := .none, data := .fields ps } := I.hok P _ hP
  have nofr : ∀ f, s.heap.objs.size ≤ f → f ∉ frs X.stack := fun f hf z => by
    rcases List.mem_cons.mp (I.stkSub _ z) with e | e
    · have h1 := I.lt
      rw [← e] at h1
      exact Nat.lt_irrefl _ (Nat.lt_of_lt_of_le h1 hf)
    · exact I.nofs hf e
  cases hc : codeAmong pos ps.toList with
  | none =>
    refine PySem.W.kla_makeFunction (mg := X.mg) (c := c) (P := P) (ps := ps) (closure_ok hfree) I.ok.glob (I.mod.glob.keeps I.bk) hcode (TB.code.keeps I.bk) hP' ht hc TB.gP bP fun c' ctv h' tk hx hge hlt hrec htb => ?_
    obtain ⟨c2, oc, vs, t, e2, hoc, hd, hv⟩ := hrec
    cases e2
    have hsz : s.heap.objs.size ≤ h'.objs.size := Nat.le_trans hge (Nat.le_of_lt hlt)
    have nC : H c' = none := I.hok.fresh hge
    have I1 := inv_table (t' := tk) (more := #[rawInt pos.line, rawInt pos.col, .ref c']) (h' := h'.push (PySem.W.kla_obj "<lambda>" (X.env.qual ++ "<lambda>") params body scope (cloFrom X.env.cells scope.names []) ((X.mg "__name__").getD .none) c' ctv)) I hP
      (fun b o hb e => Heap.get?_push_of_some _ (hx b o hb e)) (Heap.get?_push_of_some _ htb) hge ⟨oc, vs, t, Heap.get?_push_of_some _ hoc, hd, hv⟩
    have hE : ExtN H (upd (upd H P (.tbl (ps ++ #[rawInt pos.line, rawInt pos.col, .ref c']))) c' (CodeO c' (X.env.qual ++ "<lambda>"))) := fun b o e n => by
      rw [upd_ne (ne_of_none e nC), upd_ne (fun z => n ps (Option.some.inj (e.symm.trans (by rw [z]; exact hP))))]
      exact e
    have eL : (ps ++ #[rawInt pos.line, rawInt pos.col, .ref c']).toList = ps.toList ++ [rawInt pos.line, rawInt pos.col, .ref c'] := by simp
    refine h h'.objs.size c' ((X.mg "__name__").getD .none) ctv _ _ I1 hE (fun p hp => ?_) (Heap.get?_push_size _ rfl) ?_ (nofr _ hsz) upd_same (fun b qs e => ?_)
    · by_cases hb : p.1 = P
      · rw [hu p hp hb, hb]
        refine ⟨_, by rw [upd_ne (ne_of_none hP nC), upd_same], by rw [eL]; exact PySem.TriplesOk_snoc _ _ _ _ ht, fun p' cv hcv => ?_⟩
        rw [eL] at hcv
        rcases among_app _ ht hcv with z | z
        · obtain ⟨c0, e1, e2⟩ := ha p' cv z
          exact ⟨c0, e1, hE _ _ e2 codeO_ne⟩
        · exact ⟨c', z, upd_same⟩
      · obtain ⟨ps', a1, a2, a3⟩ := hT p hp
        refine ⟨ps', by rw [upd_ne (ne_of_none a1 nC), upd_ne hb]; exact a1, a2, fun p' cv hcv => ?_⟩
        obtain ⟨c0, e1, e2⟩ := a3 p' cv hcv
        exact ⟨c0, e1, hE _ _ e2 codeO_ne⟩
    · have n1 : h'.objs.size ≠ c' := Nat.ne_of_gt hlt
      have n2 : h'.objs.size ≠ P := Nat.ne_of_gt (Nat.lt_of_lt_of_le (Heap.lt_size hP') hsz)
      rw [upd_ne n1, upd_ne n2]
      exact I.hok.fresh hsz
    · by_cases hb : b = P
      · rw [hb]
        exact ⟨_, by rw [upd_ne (ne_of_none hP nC), upd_same]⟩
      · exact ⟨qs, by rw [upd_ne (ne_of_none e nC), upd_ne hb]; exact e⟩
  | some cv =>
    obtain ⟨c', e, hco⟩ := ha pos cv hc
    subst e
    refine PySem.W.kla_makeFunctionHit (mg := X.mg) (c := c) (P := P) (ps := ps) (closure_ok hfree) I.ok.glob (I.mod.glob.keeps I.bk) hcode (TB.code.keeps I.bk) hP' ht hc bP fun ctv h' tk hx hsz => ?_
    have I1 : Inv X pins σ H { s with heap := h'.push (PySem.W.kla_obj "<lambda>" (X.env.qual ++ "<lambda>") params body scope (cloFrom X.env.cells scope.names []) ((X.mg "__name__").getD .none) c' ctv), toks := tk } := I.kept fun b o e => Heap.get?_push_of_some _ (hx b o e)
    exact h h'.objs.size c' ((X.mg "__name__").getD .none) ctv H _ I1 (ExtN.refl H) hT (Heap.get?_push_size _ rfl) (I.hok.fresh hsz) (nofr _ hsz) hco (fun b qs e => ⟨qs, e⟩)
theorem pe_act3 {CXg : CXT} {Eg : XK} {Ng : List Str} {qg : Str} {sg : Scope} {g f c' : Addr} {cdg pm ctv : Value} {params : Arguments} {body : Expr} {scope : Scope} {k i : Nat} {a : Str} {pn : List (Addr × Obj)} {xe : Value → Shared → Prop} {W : WX} {t : XK → TE} {p1 p2 : Pos}
    (I : Inv X pins σ H s) (L : LamS X.env.scope scope) (hf : s.heap.get? f = some (PySem.W.kla_obj "<lambda>" (X.env.qual ++ "<lambda>") params body scope (cloFrom X.env.cells scope.names []) pm c' ctv)) (hfn : H f = none) (hfr : f ∉ frs X.stack)
    (hbind : bindArgs (PySem.W.kla_fn "<lambda>" (X.env.qual ++ "<lambda>") params body scope (cloFrom X.env.cells scope.names []) pm (.ref c') ctv) ⟨[], []⟩ = pure [])
    (tk : Takes ((cxOf CXg X.prog X.w X.K X.mg X.base Ng qg sg g cdg X.A X.stack s H Eg).tr pn xe) W) (hr : Room (k + 1) (X.A.deeper (envOfC qg sg s.heap.objs.size g cdg)))
    (hbody : ∀ (A : Around) (outer : List Env) (s : Shared) (H : Hp) (E : XK), A.guards = some [] → Room k (A.deeper (lamEnv X scope s.heap.objs.size f c')) → PE (lamCx X A outer s H E scope f c') body (t E)) (hgd : X.A.guards = some [])
    (hN : Ng[i]? = some a) (hv : Vis sg a) (hd : (a == ("__debug__" : Str)) = false := by decide) (hcd : (a == ("__classdict__" : Str)) = false := by decide) :
    PE ((cxOf CXg X.prog X.w X.K X.mg X.base Ng qg sg g cdg X.A X.stack s H Eg).tr pn xe) (.Call (.Name a p1) [] [] p2)
      (fun σZ HZ Q => σZ[i]? = some (some (.ref f)) ∧ HZ c' = some (CodeO c' (X.env.qual ++ "<lambda>")) ∧ t (fun cls d H' => W cls d σZ H') σ HZ Q) := by
  refine ⟨fun pinsZ sZ σZ HZ Q IZ h => ?_⟩
  obtain ⟨hs, hc, ht⟩ := h
  refine wpAny_Call_Name_kw (thn ((pe_var (pos := p1) (i := i) hN hv hd hcd).run pinsZ sZ σZ HZ (fun v H1 => v = .ref f ∧ H1 = HZ) IZ ⟨.ref f, hs, rfl, rfl⟩) fun u s1 ⟨v, H1, I1, r1, q1⟩ => ?_)
  obtain ⟨ev, eH⟩ := q1
  subst ev
  rw [eH] at I1
  obtain rfl : u = Value.ref f := r1
  have of1 : s1.heap.get? f = some (PySem.W.kla_obj "<lambda>" (X.env.qual ++ "<lambda>") params body scope (cloFrom X.env.cells scope.names []) pm c' ctv) := I1.base.keep f _ hf hfn hfr (fun z => nomatch (show f ∈ ([] : List Addr) from z))
  refine PySem.W.callWith_F0 ⟨_, _, _, _, of1⟩ ?_
  have un : Un (frs X.stack) [] H HZ s.heap s1.heap := I1.base
  obtain ⟨⟨oc, vs, t, hoc, hdc, hvc⟩, _, _⟩ := I1.hok c' _ hc
  have rc : codeAny (model X.prog X.w) (X.A.deeper (envOfC qg sg s.heap.objs.size g cdg)) (.call (.ref f) ⟨[], []⟩) (CR (L2.CX X.prog X.w) (envOfC qg sg s.heap.objs.size g cdg :: X.stack) X.prog X.w HZ s1 Q (fun cls d H' => W cls d σZ H')) s1 := by
    refine PySem.W.kla_callFunE hr.depth of1 rfl L.co L.gen rfl ⟨c', oc, vs, t, rfl, hoc, hdc, hvc⟩ ?_
    rw [hbind]
    refine wpAny_pure (wpAny_newFunctionEnv (fun y hy => (L.own y hy).2) (fun y hy => absurd hy (by simp)) (fun h₁ hns hsb => ⟨I1.nolimit.fresh _ hsb, ?_⟩) L.kind)
    show codeAny _ _ (.expr body (lamEnv X scope s1.heap.objs.size f c')) _ _
    have kp : ∀ b o, s1.heap.get? b = some o → h₁.get? b = some o := fun b o e => hsb.extBut b o (Nat.ne_of_lt (Heap.lt_size e)) (Heap.get?_push_of_some _ e)
    have J : Inv (lamCx X (X.A.deeper (envOfC qg sg s.heap.objs.size g cdg)) (envOfC qg sg s.heap.objs.size g cdg :: X.stack) s1 HZ (fun cls d H' => W cls d σZ H') scope f c') [] σ HZ { s1 with heap := h₁, toks := s1.toks + ([] : List (Str × Value)).length } :=
      lam_start2 I L I1.env0 hr.hd un hns kp
    refine PySem.W.kla_codeExpr (wpAny_mono ((hbody (X.A.deeper (envOfC qg sg s.heap.objs.size g cdg)) _ s1 HZ _ hgd (hr.deeper _)).run [] _ _ HZ Q J ht) (fun v s' hq => ?_) fun e s' hq => hq)
    obtain ⟨w', H', J', rv, q⟩ := hq
    exact ⟨w', H', J'.os, J'.bare, J'.base, J'.hok, rv, q⟩
  refine wpAny_call (codeAny_mono rc fun r s' hq => ?_)
  cases r with
  | error e => exact tk e s' (XE.of_call I1 (fun _ _ _ z => z) hq)
  | ok fl =>
    cases fl with
    | ret u => exact I1.after hq
    | next => exact False.elim hq
    | brk => exact False.elim hq
    | cont => exact False.elim hq
end
end LamX


namespace Lr
open PySem PySem.Spec L2
open PyProof.Rows hiding St

def sNon2 (i1 i2 : Nat) : AS := fun ρ μ => .nx ((ρ.set i1 (some .non)).set i2 (some .non)) μ
def sThunk (i : Nat) (th : Store → Res AV) : AS := fun ρ μ => (th μ).out ρ fun v μ1 => .nx (ρ.set i (some v)) μ1
def thB (i1 i2 it d i j : Nat) (b3 : AS) (th : Store → Res AV) : AS := sSeq (sNon2 i1 i2) (sSeq (sTry d i j (sThunk it th)) b3)
theorem PO'.tr {K : PySem.W.Frag} {κ : Kap} {W : WX} {ι ι1 : List Addr} {H H1 : Hp} {D : Ends} {r : Out} (p : ι <+: ι1) (m : HM ι H ι1 H1) (h : PO' K κ W ι H D r) : PO' K κ W ι1 H1 D r := PO'.mono p m h
section
variable {κ : Kap} {X : Cx} {x n y a tn : Str} {d i j i1 i2 it : Nat} {s1 : Stmt} {rest : List Stmt} {b3 : AS} {np pos pos' q1 q2 q3 p1 p2 p3 p4 : Pos} {f c' : Addr} {q : Str} {tl : XK → Hp → VK → Prop} {th : Store → Res AV} {E : XK} {Q : VK} {ι0 : List Addr} {μ0 : Store} {H : Hp}
theorem th_body (htk : Takes X (fun cls d _ H' => E cls d H')) (hs : X.stack = X.env :: X.outer) (hf : X.env.frame = some X.env.locals) (hex : X.ex = []) (hN : X.N.Nodup) (hi : X.N[i]? = some n) (hj : X.N[j]? = some y) (ht : X.N[it]? = some tn) (hln : X.env.kindOf n = some .local) (hly : X.env.kindOf y = some .local) (hlt : X.env.kindOf tn = some .local)
    (hd : Pres X.K (κ d)) (hg : Gl X x) (hm : X.mg x = some (.ref (κ d))) (hi1 : i1 ≠ 0) (hi2 : i2 ≠ 0) (hN0 : 0 < X.N.length)
    (h1 : ∃ t1, PS X s1 t1 ∧ ∀ (D : Ends) (σ : St) (H : Hp), (∀ (p : Addr) (vs : List V), H p = none → D.nx ((σ.set i1 (some .non)).set i2 (some .non)) (L2.upd H p (.tup vs))) → t1 D σ H)
    (act : ∀ (W : WX) (pn : List (Addr × Obj)) (xe : Value → Shared → Prop), Takes (X.tr pn xe) W → PE (X.tr pn xe) (.Call (.Name a p1) [] [] p2) (fun σZ HZ Q => σZ[0]? = some (some (.ref f)) ∧ HZ c' = some (LamX.CodeO c' q) ∧ tl (fun cls d H' => W cls d σZ H') HZ Q))
    (h3 : DSs κ X rest b3)
    (htl : ∀ (E' : XK) (Q : VK) (H1 : Hp), HM ι0 H ι0 H1 → SR X.K κ ι0 μ0 H1 → PG X.K κ (fun cls d _ H' => E' cls d H') [] ι0 H1 (CV X.K κ Q) (th μ0) → tl E' H1 Q)
    (sr : SR X.K κ ι0 μ0 H) (hc : H c' = some (LamX.CodeO c' q)) (hPO : PO' X.K κ (fun cls d _ H' => E cls d H') ι0 H { nx := fun _ H' => Q .non H', rt := Q } (thB i1 i2 it d i j b3 th (List.replicate X.N.length none) μ0))
    (hx : (x == ("__debug__" : Str)) = false := by decide) (hdb : (n == ("__debug__" : Str)) = false := by decide) (hcd : (n == ("__classdict__" : Str)) = false := by decide)
    (hsw : ∀ (A : Addr) (pn : List (Addr × Obj)), swapsWith (.Name n q2) (some (.Name y q1)) q3.line (X.suite A pn).env = pure false := by intro _ _; rfl)
    (hsw2 : ∀ (pn : List (Addr × Obj)) (xe : Value → Shared → Prop), swapsWith (.Call (.Name a p1) [] [] p2) (some (.Name tn p3)) p4.line (X.tr pn xe).env = pure false := by intro _ _; rfl) :
    ∃ t, PSs X (s1 :: .Try [.Assign [.Name tn p3] (.Call (.Name a p1) [] [] p2) p4] [.ExceptHandler (some (.Name x np)) (some n) [.Assign [.Name y q1] (.Name n q2) q3] pos'] [] [] pos :: rest) t ∧
      t { nx := fun _ H' => Q .non H', rt := Q } (L2.start X.N [.ref f]) H := by
  obtain ⟨t1, ps1, k1⟩ := h1
  obtain ⟨t3, ps3, im3⟩ := h3 _ htk
  have ps2 := ps_try_keep (c := .ref (κ d)) (i := i) (j := j) (np := np) (pos := pos) (pos' := pos') (q1 := q1) (q2 := q2) (q3 := q3) (Wout := fun cls d _ H' => E cls d H') (tb := fun W => tAsg (fun σZ HZ Q => σZ[0]? = some (some (.ref f)) ∧ HZ c' = some (LamX.CodeO c' q) ∧ tl (fun cls d H' => W cls d σZ H') HZ Q) (gName it))
    hs hf hex hN hi hj hln hly ⟨hg, hx, .inl hm⟩ htk (fun W pn xe tk _ => pss_one (ps_set (pos := p4) (pos' := p3) hN ht (.inl hlt) (act W pn xe tk) (hsw2 pn xe) (.inr hlt))) hdb hcd hsw
  refine ⟨_, pss_cons ps1 (pss_cons ps2 ps3), ?_⟩
  have e0 : (L2.start X.N [V.ref f])[0]? = some (some (.ref f)) := by simp [L2.start]
  have rl0 : RelS X.K κ ι0 H (List.replicate X.N.length none) (L2.start X.N [V.ref f]) := by
    refine ⟨by simp [L2.start]; omega, fun i v e => ?_⟩
    rw [List.getElem?_replicate] at e
    split at e <;> cases e
  have rl1 := (rl0.set (i := i1) .non).set (i := i2) .non
  refine k1 _ _ _ fun pT vT hT => ?_
  have mT : HM ι0 H ι0 (L2.upd H pT (.tup vT)) := HM.fresh hT
  have hc1 : (L2.upd H pT (.tup vT)) c' = some (LamX.CodeO c' q) := by rw [upd_ne (ne_of_none hc hT)]; exact hc
  have srT := sr.new (o := .tup vT) hT
  refine ⟨by rw [List.getElem?_set_ne hi2, List.getElem?_set_ne hi1]; exact e0, hc1, ?_⟩
  have rl1 := rl1.mono (List.prefix_refl _) mT
  have hPO := PO'.mono (List.prefix_refl _) mT hPO
  have hPO' : PO' X.K κ (fun cls d _ H' => E cls d H') ι0 (L2.upd H pT (.tup vT)) { nx := fun _ H' => Q .non H', rt := Q } (sSeq (sTry d i j (sThunk it th)) b3 (((List.replicate X.N.length none).set i1 (some .non)).set i2 (some .non)) μ0) := hPO
  revert hPO' rl1
  generalize ((List.replicate X.N.length (none : Option AV)).set i1 (some .non)).set i2 (some .non) = ρ1
  generalize ((L2.start X.N [V.ref f]).set i1 (some .non)).set i2 (some .non) = σ1
  intro rl1 hPO'
  refine htl _ _ _ mT srT ?_
  unfold sSeq sTry sThunk at hPO'
  cases et : th μ0 with
  | bad => rw [et] at hPO'; exact hPO'
  | ok v μ1 =>
    rw [et] at hPO'
    intro ι' H' p m sr' xv rx
    exact im3 _ _ _ ι' _ μ1 sr' ((rl1.mono p m).set rx) (PO'.mono p m hPO')
  | ex c p μ1 =>
    rw [et] at hPO'
    simp only [Res.out_ex] at hPO'
    intro ι' H' d1 pr m sr' ex
    obtain ⟨kc, ex⟩ := id ex
    refine ⟨isub c d, kit_exm kc hd, fun hc2 a2 oe hn e1 e2 e3 => ?_, fun hc2 => ?_⟩
    · rw [if_pos hc2] at hPO'
      have m2 : HM ι' H' ι' (L2.upd H' a2 (kn a2 oe)) := HM.fresh hn
      have sr3 : SR X.K κ (ι' ++ [a2]) (μ1 ++ [.exc c p]) (L2.upd H' a2 (kn a2 oe)) := by
        refine (sr'.new hn).alloc ⟨oe, upd_same, e1, e3, ?_, kc⟩ (sr'.notin hn) (by rw [upd_same]; simp) (by rw [upd_same]; trivial)
        cases p with
        | none => exact e2.trans ex
        | some v =>
          obtain ⟨dx, od, xv, ed, hx, xo, rv⟩ := ex
          exact ⟨dx, od, xv, e2.trans ed, m2.frz _ _ _ hx, xo, rv.mono (List.prefix_refl _) m2⟩
      have hr : Rel X.K κ (ι' ++ [a2]) (L2.upd H' a2 (kn a2 oe)) (.loc μ1.length) (.ref a2) := .loc (by rw [← sr'.len]; simp)
      have m4 : HM ι' H' (ι' ++ [a2]) (L2.upd H' a2 (kn a2 oe)) := m2.more hn
      exact im3 _ _ _ (ι' ++ [a2]) _ _ sr3 ((((rl1.mono pr m).mono (List.prefix_append _ _) m4).set hr).set hr |>.wipe1 i) (PO'.mono (pr.trans (List.prefix_append _ _)) (m.trans m4) hPO')
    · rw [if_neg (by rw [hc2]; simp)] at hPO'
      exact hPO' ι' H' σ1 d1 pr m sr' (rl1.mono pr m) ⟨kc, ex⟩
end
end Lr


namespace Lr
open PySem PySem.Spec L2
open PyProof.Rows hiding St

theorem HM.ext {ι : List Addr} {H H1 : Hp} (e : LamX.ExtN H H1) (tb : ∀ b ps, H b = some (.tbl ps) → ∃ qs, H1 b = some (.tbl qs)) : HM ι H ι H1 :=
  ⟨List.prefix_refl _, fun b xs h => e b _ h (fun _ z => nomatch z), fun b o u h => e b _ h (fun _ z => nomatch z), fun b u _ h hu => e b u h hu, fun _ h n => absurd h n, tb⟩
theorem SR.ext {K : PySem.W.Frag} {κ : Kap} {ι : List Addr} {μ : Store} {H H1 : Hp} (sr : SR K κ ι μ H) (e : LamX.ExtN H H1) (t : LamX.Tabs κ.T H1) : SR K κ ι μ H1 := by
  have keep : ∀ a ∈ ι, ∀ u, H a = some u → H1 a = some u := fun a ha u h => e a u h fun ps z => by
    have := sr.ne a ha
    rw [h, z] at this
    exact this
  have m : HW H H1 := ⟨fun b xs h => e b _ h (fun _ z => nomatch z), fun b o u h => e b _ h (fun _ z => nomatch z)⟩
  refine ⟨sr.len, sr.nd, fun a ha => ?_, fun a ha => ?_, t, fun n o a h1 h2 => (sr.obj n o a h1 h2).mono (List.prefix_refl _) m (keep a (List.mem_of_getElem? h2))⟩
  · cases h : H a with
    | none => exact absurd h (sr.on a ha)
    | some u => rw [keep a ha u h]; simp
  · cases h : H a with
    | none => exact absurd h (sr.on a ha)
    | some u =>
      rw [keep a ha u h]
      have := sr.ne a ha
      rw [h] at this
      exact this
theorem PG.sig {K : PySem.W.Frag} {κ : Kap} {E : XK} {σ σ' : St} {ι : List Addr} {H : Hp} {α : Type} {C : α → List Addr → Hp → Prop} {r : Res α} (h : PG K κ (fun cls d _ H' => E cls d H') σ ι H C r) : PG K κ (fun cls d _ H' => E cls d H') σ' ι H C r := by
  cases r <;> exact h
theorem Cl.lam {X : Cx} {k : Nat} {A : Around} {outer : List Env} {s : Shared} {H : Hp} {E : XK} {scope : Scope} {f c' : Addr} (hN : X.N.Nodup) (sm : ∃ o, X.base.get? sysModules = some o) (hg : A.guards = some []) (hr : Room k (A.deeper (LamX.lamEnv X scope s.heap.objs.size f c'))) :
    Cl (LamX.lamCx X A outer s H E scope f c') k := ⟨rfl, hN, hr, guards_deeper hg, sm⟩
structure ThD (κ : Kap) (P : Program) (w : World) (K : PySem.W.Frag) (mg : Str → Option Value) (base : Heap) (k : Nat) (x : Str) (st : Stmt) (N : List Str) (a : Str) (g : Addr) (B : (Store → Res AV) → AS) : Prop where
  run : ∀ (cdv : Value) (A : Around) (outer : List Env) (s : Shared) (H : Hp) (E : XK) (f c' : Addr) (q : Str) (tl : XK → Hp → VK → Prop) (th : Store → Res AV) (Q : VK) (ι0 : List Addr) (μ0 : Store),
    Cl (cxOf (L2.CX P w) P w K mg base N x (defScope st) g cdv A outer s H E) k →
    (∀ (W : WX) (pn : List (Addr × Obj)) (xe : Value → Shared → Prop) (p1 p2 : Pos), Takes ((cxOf (L2.CX P w) P w K mg base N x (defScope st) g cdv A outer s H E).tr pn xe) W →
      PE ((cxOf (L2.CX P w) P w K mg base N x (defScope st) g cdv A outer s H E).tr pn xe) (.Call (.Name a p1) [] [] p2) (fun σZ HZ Q => σZ[0]? = some (some (.ref f)) ∧ HZ c' = some (LamX.CodeO c' q) ∧ tl (fun cls d H' => W cls d σZ H') HZ Q)) →
    (∀ (E' : XK) (Q : VK) (H1 : Hp), HM ι0 H ι0 H1 → SR K κ ι0 μ0 H1 → PG K κ (fun cls d _ H' => E' cls d H') [] ι0 H1 (CV K κ Q) (th μ0) → tl E' H1 Q) →
    SR K κ ι0 μ0 H → H c' = some (LamX.CodeO c' q) → PO' K κ (fun cls d _ H' => E cls d H') ι0 H { nx := fun _ H' => Q .non H', rt := Q } (B th (List.replicate N.length none) μ0) →
    ∃ t, PSs (cxOf (L2.CX P w) P w K mg base N x (defScope st) g cdv A outer s H E) (defBody st) t ∧ t { nx := fun _ H' => Q .non H', rt := Q } (L2.start N [.ref f]) H

noncomputable def thR (n : Nat) (b : AS) : Store → Res AV := fun μ => gc μ (match b (List.replicate n none) μ with
  | .nx _ μ' => .ok .non μ'
  | .rt v μ' => .ok v μ'
  | .ex c p _ μ' => .ex c p μ'
  | _ => .bad)
noncomputable def eLam (B : (Store → Res AV) → AS) (n : Nat) (rb : AE) : AE := fun ρ μ => thR n (B fun μ' => rb ρ μ') μ
section
variable {κ : Kap} {X : Cx} {k : Nat} {x a : Str} {st : Stmt} {g c P : Addr} {fd : FuncData} {N : List Str} {B : (Store → Res AV) → AS} {params : Arguments} {body : Expr} {scope : Scope} {rb : AE} {p lpos pos : Pos}
theorem DE.lam (cl : Cl X (k + 2)) (F : Fun X.K x x st g fd) (TD : ThD κ X.prog X.w X.K X.mg X.base (k + 1) x st N a g B) (Sg : FnScope N [a] (defScope st)) (hNg : N[0]? = some a) (hva : Vis (defScope st) a) (hg : Gl X x) (hm : X.mg x = some (.ref g)) (hk : PySem.W.keepIn X.K (.ref g) = true) (hb : L2.Binds X.K fd [a] [])
    (TB : LamX.TabB X.base X.mg c P) (hcode : X.env.code = .ref c) (hmT : (P, X.env.qual ++ "<lambda>") ∈ κ.T) (hu : ∀ p ∈ κ.T, p.1 = P → p.2 = X.env.qual ++ "<lambda>") (L : LamX.LamS X.env.scope scope) (hdef : defaultsOf params X.env = ([], []))
    (hbind : ∀ (q : Str) (cl : List (Str × Addr)) (pm cv ctv : Value), bindArgs (PySem.W.kla_fn "<lambda>" q params body scope cl pm cv ctv) ⟨[], []⟩ = pure [])
    (hbody : ∀ (A : Around) (outer : List Env) (s : Shared) (H : Hp) (E : XK) (f c' : Addr), Cl (LamX.lamCx X A outer s H E scope f c') k → DE κ (LamX.lamCx X A outer s H E scope f c') body rb)
    (hdb : (x == ("__debug__" : Str)) = false := by decide) (hd : (a == ("__debug__" : Str)) = false := by decide) (hcd : (a == ("__classdict__" : Str)) = false := by decide) :
    DE κ X (.Call (.Name x p) [.Lambda params body scope lpos] [] pos) (eLam B N.length rb) := fun W tk => by
  refine ⟨fun σ H Q => ∃ (ι : List Addr) (ρ : Lr.Loc) (μ : Store), SR X.K κ ι μ H ∧ RelS X.K κ ι H ρ σ ∧ PG X.K κ W σ ι H (CV X.K κ Q) (eLam B N.length rb ρ μ), ⟨fun pins s σ H Q I h => ?_⟩, fun σ H Q ι ρ μ sr rl h => ⟨ι, ρ, μ, sr, rl, h⟩⟩
  obtain ⟨ι, ρ, μ, sr, rl, h⟩ := h
  obtain ⟨oc, od, kV, doc, pm, an, cdv, ct, osl, rfl, lk, hcg⟩ := F.ex
  refine wpAny_Call_Name_kw (ld_glob I hg hm ?_ hdb)
  refine PySem.W.callWith_K (h₀ := X.base) I.ok.mod.kin hk ?_ (by rfl) (by rfl)
  show wpAny _ _ (spliced ((false, eval (.Lambda params body scope lpos) X.env) :: backTo pos (starEach [] X.env))) _ _ s
  refine Calls.spliced_cons (LamX.lam_make3 I TB hcode hmT hu sr.tabs hdef (L.has I.ok) fun f c' pm' ctv H1 s' I1 eN T1 hf hfn hfr hco htb => ?_)
  refine Calls.spliced_nil ⟨I1.kIn, ?_⟩
  have m1 : HM ι H ι H1 := HM.ext eN htb
  have sr1 := sr.ext eN T1
  have rl1 := rl.mono (List.prefix_refl _) m1
  have h1 : PG X.K κ (fun cls d _ H' => W cls d σ H') [] ι H1 (CV X.K κ Q) (eLam B N.length rb ρ μ) := by
    have z := PG.mono (List.prefix_refl _) m1 h
    cases e : eLam B N.length rb ρ μ <;> rw [e] at z <;> exact z
  have h2 := gc_ok sr1 h1
  have rc : codeAny (model X.prog X.w) X.A (.call (.ref g) ⟨[.ref f], []⟩) (CR (L2.CX X.prog X.w) X.stack X.prog X.w H1 s' Q (fun cls d H' => W cls d σ H')) s' := by
    refine LamX.run_ofS (N := N) (ps := [a]) (us := [.ref f]) (vs := [.ref f]) lk hcg Sg cl.room I1.env0 (hb s' [.ref f] I1.kIn rfl) (.cons rfl .nil) rfl fun hr' => ?_
    refine TD.run cdv X.A X.stack s' H1 _ f c' (X.env.qual ++ "<lambda>") (fun E' H' Q' => ∃ (ι : List Addr) (ρ : Lr.Loc) (μ : Store), SR X.K κ ι μ H' ∧ RelS X.K κ ι H' ρ σ ∧ PG X.K κ (fun cls d _ H' => E' cls d H') σ ι H' (CV X.K κ Q') (rb ρ μ)) (fun μ' => rb ρ μ') Q ι μ
      ⟨rfl, Sg.nd, hr', guards_deeper cl.gd, cl.sm⟩ (fun W' pn xe p1 p2 tk' => LamX.pe_act3 (i := 0) (t := fun E' σ H' Q' => ∃ (ι : List Addr) (ρ : Lr.Loc) (μ : Store), SR X.K κ ι μ H' ∧ RelS X.K κ ι H' ρ σ ∧ PG X.K κ (fun cls d _ H' => E' cls d H') σ ι H' (CV X.K κ Q') (rb ρ μ)) I1 L hf hfn hfr (hbind _ _ _ _ _) tk' hr' (fun A outer s H E hgA hrA => ?_) cl.gd hNg hva hd hcd)
      (fun E' Q' H2 m2 sr2 hh => ⟨ι, ρ, μ, sr2, rl1.mono (List.prefix_refl _) m2, PG.sig hh⟩) sr1 hco ?_
    · obtain ⟨t, q, im⟩ := hbody A outer s H E f c' (Cl.lam cl.nd cl.sm hgA hrA) (fun cls d _ H' => E cls d H') (takes_of rfl rfl rfl rfl)
      refine ⟨fun pins s σ H Q I ⟨ι, ρ, μ, sr, rl, h⟩ => ?_⟩
      exact q.run pins s σ H Q I (im σ H Q ι ρ μ sr rl h)
    · revert h2
      cases eb : B (fun μ' => rb ρ μ') (List.replicate N.length none) μ with
      | nx ρ' μ' => exact fun h2 ι' H' σ' p m sr' _ => h2 ι' H' p m sr' .non .non
      | rt v μ' => exact fun h2 ι' H' x p m sr' rx => h2 ι' H' p m sr' x rx
      | ex c p ρ' μ' => exact fun h2 ι' H' σ' d p m sr' _ e => h2 ι' H' d p m sr' e
      | bk ρ' μ' => exact fun h2 => False.elim h2
      | ct ρ' μ' => exact fun h2 => False.elim h2
      | bad => exact fun h2 => False.elim h2
  refine wpAny_call (codeAny_mono rc fun r s2 hq => ?_)
  cases r with
  | error e => exact tk e s2 (XE.of_call I1 (fun _ _ _ z => z) hq)
  | ok fl =>
    cases fl with
    | ret u => exact I1.after hq
    | next => exact False.elim hq
    | brk => exact False.elim hq
    | cont => exact False.elim hq
end
end Lr


namespace Lr
open PySem PySem.Spec L2
open PyProof.Rows hiding St

def KTup (K : PySem.W.Frag) (v : AV) (u : V) : Prop := ∀ (κ : Kap) (ι : List Addr) (H : Hp), Rel K κ ι H v u
theorem ktup {K : PySem.W.Frag} {a : Addr} {dd : Option Addr} {its : List Value} {n : Nat} {sl : Array (Option Value)} {xs : List AV} {vs : List V} (e : K.lookup a = some ⟨.type "tuple", dd, .seq its.toArray n, sl⟩) (hv : Vals vs its) (hz : its.length ≤ 1000)
    (hr : ∀ (κ : Kap) (ι : List Addr) (H : Hp), RelL K κ ι H xs vs) : KTup K (.tup xs) (.ref a) := fun κ ι H =>
  .tup (.inr ⟨_, _, _, e, rfl, rfl, by rw [List.size_toArray, sizeLine_eq]; omega, by simpa using hv⟩) (hr κ ι H)
theorem DE.gtup {κ : Kap} {X : Cx} {x : Str} {v : AV} {a : Addr} {pos : Pos} (hg : Gl X x) (hm : X.mg x = some (.ref a)) (h : KTup X.K v (.ref a)) (hdb : (x == ("__debug__" : Str)) = false := by decide) : DE κ X (.Name x pos) (eC v) :=
  .con (x := .ref a) ⟨fun pins s σ H Q I h => ld_glob I hg hm ⟨.ref a, H, I, rfl, h⟩ hdb⟩ fun ι H => h κ ι H

theorem FnD.ofC {c : Addr} {κ : Kap} {P : Program} {w : World} {K : PySem.W.Frag} {mg : Str → Option Value} {base : Heap} {k : Nat} {x qual : Str} {st : Stmt} {f : Addr} {fd : FuncData} {N ps : List Str} {b : AS} (F : Fun K x qual st f fd) (S : FnScope N ps (defScope st)) (hsm : ∃ o, base.get? sysModules = some o)
    (hco : fd.code = .ref c)
    (hb : ∀ (A : Around) (outer : List Env) (s : Shared) (H : Hp) (E : XK), Cl (cxOf (L2.CX P w) P w K mg base N qual (defScope st) f (.ref c) A outer s H E) k → DSs κ (cxOf (L2.CX P w) P w K mg base N qual (defScope st) f (.ref c) A outer s H E) (defBody st) b) :
    FnD κ P w K mg base (k + 1) f fd ps (fnR N.length ps.length b) := by
  obtain ⟨oc, od, kV, doc, pm, an, cdv, ct, osl, rfl, lk, hcd⟩ := F.ex
  have hco : cdv = .ref c := hco
  subst hco
  refine ⟨fun as μ hn => if_neg hn, fun A outer s H args us vs as ι μ Q E hr hgd e0 hbd r ra hl sr h => ?_⟩
  have KX : K.In s.heap := e0.mod.kin.keeps fun b o e => (e0.bs b o e).1
  have lim : s.heap.NoLimit := e0.mod.nolimit.keeps fun b o e => (e0.bs b o e).1
  have par : ∀ y ∈ ps.zip us, (defScope st).names.lookup y.1 = some .local ∨ ((defScope st).names.lookup y.1 = some .cell ∧ ((cellsFrom (s.heap.objs.size + 1) (defScope st).names []).lookup y.1).isSome = true) := by
    rintro ⟨n, v⟩ hy
    exact (S.par n (List.of_mem_zip hy).1).imp id fun q => ⟨q, PySem.W.cellsFrom_some _ _ _ (.inl q)⟩
  refine codeAny_call_function hr.depth (KX _ _ lk) rfl S.co S.gen rfl (PySem.W.codeRec_of KX hcd) (hbd _ _ _ _ ?_)
  refine wpAny_newFunctionEnv_cells S.kind par fun env he s1 x => ?_
  subst he
  refine ⟨lim.keeps x.toInCall.keep, codeAny_func ?_⟩
  have I := inv_start (CX := L2.CX P w) (E := E) (f := f) (qual := qual) (cd := .ref c) S hr.hd e0 hl r x
  have cl : Cl (cxOf (L2.CX P w) P w K mg base N qual (defScope st) f (.ref c) A outer s H E) k := ⟨rfl, S.nd, hr.deeper _, guards_deeper hgd, hsm⟩
  obtain ⟨t, pt, it⟩ := hb A outer s H E cl _ (takes_of rfl rfl rfl rfl)
  have hlen : as.length = ps.length := ra.length.trans hl
  have go : t { nx := fun _ H' => Q .non H', rt := Q } (L2.start N vs) H := by
    refine it _ _ H ι (startA N.length as) μ sr (start_rel ra) ?_
    have h2 := gc_ok (r := bodyR N.length b as μ) sr (by simpa only [fnR, if_pos hlen] using h)
    unfold bodyR at h2
    cases eb : b (startA N.length as) μ with
    | nx ρ' μ' => rw [eb] at h2; exact fun ι' H' σ' p m sr' _ => h2 ι' H' p m sr' .non .non
    | rt v μ' => rw [eb] at h2; exact fun ι' H' x p m sr' rx => h2 ι' H' p m sr' x rx
    | ex c p ρ' μ' => rw [eb] at h2; exact fun ι' H' σ' d p m sr' _ e => h2 ι' H' d p m sr' e
    | bk ρ' μ' => rw [eb] at h2; exact False.elim h2
    | ct ρ' μ' => rw [eb] at h2; exact False.elim h2
    | bad => rw [eb] at h2; exact False.elim h2
  refine wpAny_mono (pt.run [] s1 (L2.start N vs) H _ I go) (fun fl s' hs => ?_) fun e s' hs => hs
  cases fl with
  | next =>
    obtain ⟨σ', H', J, q⟩ := hs
    exact ⟨V.non, H', J.os, J.bare, J.base, J.hok, rfl, q⟩
  | ret u =>
    obtain ⟨v, σ', H', J, rv, q⟩ := hs
    exact ⟨v, H', J.os, J.bare, J.base, J.hok, rv, q⟩
  | brk =>
    obtain ⟨_, _, _, q⟩ := hs
    exact False.elim q
  | cont =>
    obtain ⟨_, _, _, q⟩ := hs
    exact False.elim q

theorem tab_hu {L : List (Addr × Str)} (nd : (L.map (·.1)).Nodup) {P : Addr} {q : Str} (h : (P, q) ∈ L) : ∀ p ∈ L, p.1 = P → p.2 = q := by
  induction L with
  | nil => cases h
  | cons y ys ih =>
    rw [List.map_cons, List.nodup_cons] at nd
    intro p hp e
    rcases List.mem_cons.mp h with h | h
    · rcases List.mem_cons.mp hp with hp | hp
      · rw [hp, ← h]
      · exact absurd (List.mem_map.mpr ⟨p, hp, e.trans (by rw [← h])⟩) nd.1
    · rcases List.mem_cons.mp hp with hp | hp
      · exact absurd (List.mem_map.mpr ⟨_, h, e.symm.trans (by rw [hp])⟩) nd.1
      · exact ih nd.2 h p hp e
theorem tab_of {K : PySem.W.Frag} {fa c P : Addr} {h : Heap} {fd : FuncData} {oc e : Value} {od dd : Option Addr} {vs : Array Value} {sl sl2 : Array (Option Value)} (o : LamX.OwnTab K fa h) (l : K.lookup fa = some ⟨oc, od, .func fd, sl⟩) (hc : fd.code = .ref c)
    (l2 : K.lookup c = some ⟨e, dd, .fields vs, sl2⟩) (hv : vs[11]? = some (.ref P)) : h.get? P = some { cls := .none, data := .fields #[] } := o c P _ fd e dd vs sl2 l rfl hc l2 hv

theorem law_walkN {l : PySem.W.OpenLaw} {n k : Nat} {q : Program} {loose : List Str} {XP : (Str → Option Value) → Heap → Prop} {YP : World → Heap → Prop} {d : DefRec} {K : Params → PySem.W.Frag} {x : Str} (dns : List Str)
    (hn : l.most = some n) (hn2 : n ≤ sizeLine) (hdf : d.params.defaults = []) (hr : Room k callerA) (hq : importsNone q = true) (hrec : (dns.all fun dn => (recsOf q).any fun e => e.name == dn) = true)
    (hY : ∀ (w : World) (h : Heap), YP w h → (K w.params).In h)
    (F : ∀ (w : World) (mg : Str → Option Value) (fa : Addr) (h : Heap), YP w h → (K w.params).In h → h.Ns mainGlobals mg → mg d.name = some (.ref fa) → (∀ dn ∈ dns, ∀ fa', mg dn = some (.ref fa') → LamX.OwnTab (K w.params) fa' h) →
      ∃ (fd : FuncData) (κ : Kap) (cs : List (Addr × Addr)) (r : Fn), (∀ p ∈ cs, h.get? p.2 = some { cls := .none, data := .fields #[] }) ∧ (∀ p ∈ cs, (K w.params).lookup p.2 = none) ∧ (∀ p ∈ cs, PySem.W.CodeHd h p.1 p.2) ∧ (∀ p ∈ κ.T, p.1 ∈ cs.map (·.2)) ∧
        (∀ (s : Shared) (u : Value), BindsTo s fd ⟨[u], []⟩ [(x, u)]) ∧ (∀ ns : List Int, ns.length ≤ n → (∀ i ∈ ns, Builtin.Int.intBits i ≤ 1048576) → ∃ μ', r [.scr ns] [] = .ok (.bl true) μ') ∧
        ∀ base : Heap, (K w.params).In base → base.Ns mainGlobals mg → (∃ o, base.get? sysModules = some o) → (∀ p ∈ cs, LamX.TabB base mg p.1 p.2) → FnD κ l.prog w (K w.params) mg base k fa fd [x] r) :
    PySem.W.WalkO q loose XP YP l.row.toRowW d [] (fun f vs => PySem.call f vs) := by
  refine Att.attach_callB hn hdf fun w s₀ s₁ mg mb fa o pm cd doc a vs ns G Y ho hd hcd hmg hobj hints hlen hbits hg => ?_
  have KX := hY w _ Y
  have own : ∀ dn ∈ dns, ∀ fa', mg dn = some (.ref fa') → LamX.OwnTab (K w.params) fa' s₁.heap := fun dn hdn fa' hmg' c P o1 fd1 e dd vs1 sl k1 k2 k3 k4 k5 => by
    obtain ⟨dL, hm, hn1⟩ := List.any_eq_true.mp (List.all_eq_true.mp hrec dn hdn)
    have hn2 : dL.name = dn := beq_iff_eq.mp hn1
    obtain ⟨a', o', fd', c', P', h1, h2, h3, h4, h5, h6⟩ := G.T.tab dL hm
    rw [hn2, hmg'] at h1
    cases h1
    have g1 := KX _ _ k1
    rw [g1] at h2
    cases h2
    rw [k2] at h3
    cases h3
    rw [k3] at h4
    cases h4
    obtain ⟨⟨oc, vc, e1, _, e3, e4⟩, hP⟩ := h6
    have g2 := KX _ _ k4
    rw [g2] at e1
    cases e1
    cases e3
    rw [k5] at e4
    cases e4
    exact hP
  obtain ⟨fd, κ, cs, r, hT, nT, C, hkT, hb, hok, hF⟩ := F w mg fa _ Y KX G.T.g hmg own
  obtain ⟨μ', e⟩ := hok ns hlen hbits
  exact law_run KX G.T.g G.T.b G.T.builtins G.T.nolimit (G.T.seer hq) hg hT nT C G.T.bmain hkT hobj hints (Nat.le_trans hlen hn2) hr hF hb e
end Lr


namespace Lr
open PySem PySem.Spec L2
open PyProof.Rows hiding St
section
variable {κ : Kap} {X : Cx} {a o : Expr} {ra rb : AE}

def eIdxB (o a : AE) : AE := fun ρ μ => (o ρ μ).bind fun l μ1 => if isLs μ1 l then (a ρ μ1).bind fun v μ2 => match lsOf μ2 l, v with
  | some xs, .bl b => match blsOf xs with
    | some bs => match bs.findIdx? (fun z => z == b) with
      | some j => .ok (.int (j : Nat)) μ2
      | none => .bad
    | none => .bad
  | _, _ => .bad else .bad
theorem bls_vals {K : PySem.W.Frag} {ι : List Addr} {H : Hp} : ∀ {bs : List Bool} {vs : List V}, RelL K κ ι H (bs.map AV.bl) vs → vs = bs.map V.bl
  | [], _, .nil => rfl
  | b :: bs, _, .cons (.bl _) r => by rw [bls_vals r]; rfl
theorem DE.idxB {apos cpos : Pos} (ho : DE κ X o ra) (ha : DE κ X a rb)
    (hbase : attributeBase o "index" X.env (eval o X.env) = eval o X.env := by rfl)
    (hfew : ((backTo cpos (starEach [a] X.env)).all (fun x => !x.1) && (backToKw cpos (keywordEach [] X.env)).all (fun x => x.1.isSome) && decide ([a].length + ([] : List Keyword).length + (if ([] : List Keyword).isEmpty then 0 else 1) < 30)) = true := by rfl)
    (hline : (apos.endLine == cpos.line) = true := by rfl) (hs : starEach [a] X.env = (false, eval a X.env) :: starEach [] X.env := by rfl) (hplain : (backTo cpos (starEach [] X.env)).any (·.1) = false := by rfl) :
    DE κ X (.Call (.Attribute o "index" apos) [a] [] cpos) (eIdxB ra rb) := fun W tk => by
  obtain ⟨t, p, i⟩ := ho W tk
  obtain ⟨u, q, j⟩ := ha W tk
  refine ⟨_, pe_bm PySem.F.plainAttrs_list PySem.F.slot_list_index PySem.F.type_list_index mt_index p (pa_cons q pa_nil hs) hbase hfew hline hs hplain, fun σ H Q ι ρ μ sr rl h => ?_⟩
  refine i σ H _ ι ρ μ sr rl (PG.bind h fun l μ1 ι1 H1 p1 m1 sr1 h1 lv rlv => ?_)
  by_cases hl : isLs μ1 l = true
  · rw [if_pos hl] at h1
    obtain ⟨xs0, e0⟩ := Option.isSome_iff_exists.mp hl
    obtain ⟨p0, vs0, ex, h0, _⟩ := ls_rel sr1 rlv e0
    refine ⟨lst_ty (ι := ι1) (ι' := ι1) (H' := H1) ex h0, ?_⟩
    refine j σ H1 _ ι1 ρ μ1 sr1 (rl.mono p1 m1) (PG.bind h1 fun v μ2 ι2 H2 p2 m2 sr2 h2 vv rv => ?_)
    split at h2 <;> first | exact False.elim h2 | skip
    rename_i xs b e1
    split at h2 <;> first | exact False.elim h2 | skip
    rename_i bs eb
    split at h2 <;> first | exact False.elim h2 | skip
    rename_i n en
    cases rv
    obtain ⟨q1, vs, e, hq, r2⟩ := ls_rel sr2 (rlv.mono p2 m2) e1
    rw [bls_map eb] at r2
    have ev := bls_vals r2
    subst ev
    obtain ⟨hn, hp, hbf⟩ := List.findIdx?_eq_some_iff_getElem.mp en
    exact ⟨q1, bs.map V.bl, .bl b, n, .bl bs[n], e, rfl, hq, rfl, by simp [flatV], by simp [hn], by simpa [eqV] using hp, fun m z' hm hz => by
      rw [List.getElem?_map] at hz
      obtain ⟨w, hw, rfl⟩ := Option.map_eq_some_iff.mp hz
      obtain ⟨hm2, e3⟩ := List.getElem?_eq_some_iff.mp hw
      have := hbf m hm
      rw [e3] at this
      simpa [eqV] using this, ok1 sr2 h2 (.int _)⟩
  · rw [if_neg hl] at h1
    exact False.elim h1

theorem count_eqU {y : V} : ∀ {ys : List V} {its : List Value}, Vals ys its → ys.all flatV = true → its.countP (eqU y) = ys.countP fun z => eqV z y
  | _, _, .nil, _ => rfl
  | _, _, .cons (a := z) (b := u) r rr, h => by
    rw [List.all_cons, Bool.and_eq_true] at h
    rw [List.countP_cons, List.countP_cons, count_eqU rr h.2, eqU_of r h.1]
def rCnt (K : PySem.W.Frag) : V → List V → Hp → VK → Prop := fun x xs H Q => ∃ (a : Addr) (ys : List V) (y : V), x = V.ref a ∧ xs = [y] ∧ SqL K H a ys ∧ flatV y = true ∧ ys.all flatV = true ∧ Q (.int ((ys.countP fun z => eqV z y : Nat) : Int)) H
theorem mt_cnt : MtR X "list.count" (rCnt X.K) := by
  intro pins s σ H x xs v us Q I rx rxs h
  obtain ⟨a, ys, y, rfl, rfl, hs, fy, fys, q⟩ := h
  cases rx
  cases rxs with
  | cons ry rt =>
    rename_i uy ut
    cases rt
    obtain ⟨its, rv, ⟨⟨cls, dd, data, sl⟩, n, ho, hc, hdn, hd⟩, hlen⟩ := I.list hs
    simp only at hc hd
    subst hc hd
    refine call_meets PySem.F.slot_list_count ⟨_, ho, rfl⟩ PySem.F.entry_list_count (PySem.F.args_list_count_2 _ _)
      (SeqAt.list_countAt a its.toArray n dd sl uy (eqU y)) ⟨ho, fun u' hu' => mem_eqAt ry fy rv fys u' (by simpa using hu'), ?_⟩
    exact ⟨.int ((ys.countP fun z => eqV z y : Nat) : Int), H, I.tok _, ⟨_, by rw [← count_eqU rv fys]⟩, q⟩

def eCntB (o a : AE) : AE := fun ρ μ => (o ρ μ).bind fun l μ1 => if isLs μ1 l then (a ρ μ1).bind fun v μ2 => match lsOf μ2 l, v with
  | some xs, .bl b => match blsOf xs with
    | some bs => .ok (.int ((bs.countP fun z => z == b : Nat) : Int)) μ2
    | none => .bad
  | _, _ => .bad else .bad
theorem DE.cntB {apos cpos : Pos} (ho : DE κ X o ra) (ha : DE κ X a rb)
    (hbase : attributeBase o "count" X.env (eval o X.env) = eval o X.env := by rfl)
    (hfew : ((backTo cpos (starEach [a] X.env)).all (fun x => !x.1) && (backToKw cpos (keywordEach [] X.env)).all (fun x => x.1.isSome) && decide ([a].length + ([] : List Keyword).length + (if ([] : List Keyword).isEmpty then 0 else 1) < 30)) = true := by rfl)
    (hline : (apos.endLine == cpos.line) = true := by rfl) (hs : starEach [a] X.env = (false, eval a X.env) :: starEach [] X.env := by rfl) (hplain : (backTo cpos (starEach [] X.env)).any (·.1) = false := by rfl) :
    DE κ X (.Call (.Attribute o "count" apos) [a] [] cpos) (eCntB ra rb) := fun W tk => by
  obtain ⟨t, p, i⟩ := ho W tk
  obtain ⟨u, q, j⟩ := ha W tk
  refine ⟨_, pe_bm PySem.F.plainAttrs_list PySem.F.slot_list_count PySem.F.type_list_count mt_cnt p (pa_cons q pa_nil hs) hbase hfew hline hs hplain, fun σ H Q ι ρ μ sr rl h => ?_⟩
  refine i σ H _ ι ρ μ sr rl (PG.bind h fun l μ1 ι1 H1 p1 m1 sr1 h1 lv rlv => ?_)
  by_cases hl : isLs μ1 l = true
  · rw [if_pos hl] at h1
    obtain ⟨xs0, e0⟩ := Option.isSome_iff_exists.mp hl
    obtain ⟨p0, vs0, ex, h0, _⟩ := ls_rel sr1 rlv e0
    refine ⟨lst_ty (ι := ι1) (ι' := ι1) (H' := H1) ex h0, ?_⟩
    refine j σ H1 _ ι1 ρ μ1 sr1 (rl.mono p1 m1) (PG.bind h1 fun v μ2 ι2 H2 p2 m2 sr2 h2 vv rv => ?_)
    split at h2 <;> first | exact False.elim h2 | skip
    rename_i xs b e1
    split at h2 <;> first | exact False.elim h2 | skip
    rename_i bs eb
    cases rv
    obtain ⟨q1, vs, e, hq, r2⟩ := ls_rel sr2 (rlv.mono p2 m2) e1
    rw [bls_map eb] at r2
    have ev := bls_vals r2
    subst ev
    have ec : (List.map V.bl bs).countP (fun z => eqV z (.bl b)) = bs.countP fun z => z == b := by
      rw [List.countP_map]
      rfl
    exact ⟨q1, bs.map V.bl, .bl b, e, rfl, hq, rfl, by simp [flatV], by rw [ec]; exact ok1 sr2 h2 (.int _)⟩
  · rw [if_neg hl] at h1
    exact False.elim h1
end
end Lr


namespace Lr
open PySem PySem.Spec L2
open PyProof.Rows hiding St
theorem RelL.maps {K : PySem.W.Frag} {κ : Kap} {ι : List Addr} {H : Hp} {γ : Type} {f : γ → AV} {g : γ → V} (h : ∀ x, Rel K κ ι H (f x) (g x)) : ∀ xs : List γ, RelL K κ ι H (xs.map f) (xs.map g)
  | [] => .nil
  | x :: xs => .cons (h x) (RelL.maps h xs)
section
variable {κ : Kap} {X : Cx} {a : Expr} {ra : AE} {k : Nat} {p p2 pos pos2 : Pos}
def aLRg (r : AE) : AA := fun ρ μ => (r ρ μ).bind fun x μ1 => match x with
  | .int n => if decide (0 ≤ n) && decide (n ≤ 1000000) then .ok (rangeL 0 n.toNat) μ1 else .bad
  | _ => .bad
theorem DN.lrg (cl : Cl X k) (hg : Gl X "list") (hm : X.mg "list" = none) (hg2 : Gl X "range") (hm2 : X.mg "range" = none) (ha : DE κ X a ra)
    (na : starEach [a] X.env = (false, eval a X.env) :: starEach [] X.env := by rfl)
    (nb : starEach [.Call (.Name "range" p2) [a] [] pos2] X.env = (false, eval (.Call (.Name "range" p2) [a] [] pos2) X.env) :: starEach [] X.env := by rfl) :
    DN κ X (.Call (.Name "list" p) [.Call (.Name "range" p2) [a] [] pos2] [] pos) (aLRg ra) := DN.mk cl fun W tk => by
  obtain ⟨t, q, i⟩ := ha W tk
  refine ⟨_, pe_listRg cl.calm hg hm (prg_1 hg2 hm2 q na) nb, fun σ H Q ι ρ μ sr rl h => ?_⟩
  refine i σ H _ ι ρ μ sr rl (PG.bind0 h fun x μ1 ι1 H1 p1 m1 sr1 h1 v rv => ?_)
  split at h1 <;> first | exact False.elim h1 | skip
  rename_i n
  cases rv
  by_cases hz : (decide (0 ≤ n) && decide (n ≤ 1000000)) = true
  · rw [if_pos hz] at h1
    simp only [Bool.and_eq_true, decide_eq_true_eq] at hz
    obtain ⟨z1, z2⟩ := hz
    refine ⟨n, rfl, RgOk.of_le (by omega) (by omega) (by omega) (by omega), fun l hn => okNew sr sr1 m1 h1 ?_ hn⟩
    unfold rangeL rgV
    rw [Int.sub_zero]
    exact RelL.maps (fun i => .int _) _
  · rw [if_neg hz] at h1
    exact False.elim h1
end
end Lr


namespace Lr
open PySem PySem.Spec L2
open PyProof.Rows hiding St
def putFA (f : Str) (v : AV) : List (Str × AV) → List (Str × AV)
  | [] => [(f, v)]
  | (g, x) :: r => if g = f then (g, v) :: r else (g, x) :: putFA f v r
section
variable {K : PySem.W.Frag} {κ : Kap} {ι : List Addr} {H : Hp} {f : Str}
theorem RelF.put {v : AV} {x : V} (h : Rel K κ ι H v x) : ∀ {fs : List (Str × AV)} {gs : List (Str × V)}, RelF K κ ι H fs gs → RelF K κ ι H (putFA f v fs) (putF f x gs)
  | _, _, .nil => .cons ⟨rfl, h⟩ .nil
  | (g, y) :: fs, (g2, z) :: gs, .cons a r => by
    obtain ⟨e, ry⟩ := a
    dsimp only at e ry
    subst e
    unfold putFA putF
    split
    · exact .cons ⟨rfl, h⟩ r
    · exact .cons ⟨rfl, ry⟩ (RelF.put h r)
theorem RelF.look {v : AV} : ∀ {fs : List (Str × AV)} {gs : List (Str × V)}, RelF K κ ι H fs gs → fs.lookup f = some v → ∃ x, gs.lookup f = some x ∧ Rel K κ ι H v x
  | _, _, .nil, e => by cases e
  | (g, y) :: fs, (g2, z) :: gs, .cons a r, e => by
    obtain ⟨e1, ry⟩ := a
    dsimp only at e1 ry
    subst e1
    simp only [List.lookup] at e ⊢
    split at e
    · cases e; exact ⟨z, rfl, ry⟩
    · exact RelF.look r e
theorem RelF.lookN : ∀ {fs : List (Str × AV)} {gs : List (Str × V)}, RelF K κ ι H fs gs → fs.lookup f = none → gs.lookup f = none
  | _, _, .nil, e => rfl
  | (g, y) :: fs, (g2, z) :: gs, .cons a r, e => by
    obtain ⟨e1, ry⟩ := a
    dsimp only at e1 ry
    subst e1
    simp only [List.lookup] at e ⊢
    split at e
    · cases e
    · exact RelF.lookN r e
theorem RelF.length : ∀ {fs : List (Str × AV)} {gs : List (Str × V)}, RelF K κ ι H fs gs → fs.length = gs.length
  | _, _, .nil => rfl
  | _, _, .cons _ r => congrArg (· + 1) (RelF.length r)
end

def insAt (μ : Store) (v : AV) : Option (Nat × Nat × List (Str × AV)) := match v with
  | .loc n => (match μ[n]? with
    | some (.ins c fs) => some (n, c, fs)
    | _ => none)
  | _ => none
theorem insAt_loc {μ : Store} {n c : Nat} {fs : List (Str × AV)} (h : μ[n]? = some (.ins c fs)) : insAt μ (.loc n) = some (n, c, fs) := by unfold insAt; simp only [h]
section
variable {K : PySem.W.Frag} {κ : Kap} {ι : List Addr} {H : Hp} {μ : Store}
theorem insAt_spec {v : AV} {x : V} {n c : Nat} {fs : List (Str × AV)} (sr : SR K κ ι μ H) (r : Rel K κ ι H v x) (e : insAt μ v = some (n, c, fs)) : ∃ (a dx : Addr) (gs : List (Str × V)), v = .loc n ∧ x = .ref a ∧ ι[n]? = some a ∧ μ[n]? = some (.ins c fs) ∧ H a = some (.ins (κ c) dx gs) ∧ RelF K κ ι H fs gs := by
  unfold insAt at e
  split at e
  · split at e
    · rename_i m c' fs' hm
      cases e
      cases r with
      | loc h =>
        obtain ⟨dx, gs, h1, h2⟩ := sr.obj _ _ _ hm h
        exact ⟨_, dx, gs, rfl, rfl, h, hm, h1, h2⟩
    · cases e
  · cases e
end

def eFld (cs : List Nat) (f : Str) (ra : AE) : AE := fun ρ μ => (ra ρ μ).bind fun v μ1 => match insAt μ1 v with
  | some (_, c, fs) => if c ∈ cs then (match fs.lookup f with
    | some u => .ok u μ1
    | none => .bad) else .bad
  | none => .bad
section
variable {κ : Kap} {X : Cx} {e o : Expr} {es : List Expr} {ra ro rv : AE} {rs : AA} {f x m : Str} {pos pos' apos p : Pos} {cs : List Nat} {k j c : Nat}
theorem DE.fld (cs : List Nat) (hk : ∀ c ∈ cs, Cls X.K (κ c) ∧ NoAttr X.K (κ c) f) (ha : DE κ X e ra) (hb : attributeBase e f X.env (eval e X.env) = eval e X.env := by rfl) : DE κ X (.Attribute e f pos) (eFld cs f ra) := fun W tk => by
  obtain ⟨t, p, i⟩ := ha W tk
  refine ⟨tFld X.K t f, pe_fld p hb, fun σ H Q ι ρ μ sr rl h => ?_⟩
  refine i σ H _ ι ρ μ sr rl (PG.bind h fun v μ1 ι1 H1 p1 m1 sr1 h1 x rx => ?_)
  cases e1 : insAt μ1 v with
  | none => rw [e1] at h1; exact False.elim h1
  | some q =>
    obtain ⟨n, c, fs⟩ := q
    rw [e1] at h1
    dsimp only at h1
    split at h1
    · rename_i hc
      cases e2 : fs.lookup f with
      | none => rw [e2] at h1; exact False.elim h1
      | some u =>
        rw [e2] at h1
        obtain ⟨a, dx, gs, e3, e4, e5, e6, e7, e8⟩ := insAt_spec sr1 rx e1
        obtain ⟨y, ey, ry⟩ := e8.look e2
        exact ⟨a, _, dx, gs, y, e4, e7, (hk c hc).1, (hk c hc).2, ey, h1 ι1 H1 (List.prefix_refl _) (HM.refl _) sr1 y ry⟩
    · exact False.elim h1

def putAt (cs : List Nat) (f : Str) (o v : AV) (ρ : Loc) (μ : Store) (go : Store → Out) : Out := match insAt μ o with
  | some (n, c, fs) => if c ∈ cs ∧ fs.length < 1000 then go (μ.set n (.ins c (putFA f v fs))) else .bad
  | none => .bad
theorem putAt_ok {K : PySem.W.Frag} {W : WX} {ι : List Addr} {H : Hp} {D : Ends} {ρ : Loc} {μ : Store} {o v : AV} {xo xv : V} {go : Store → Out} {σ : St} (hk : ∀ c ∈ cs, Cls K (κ c) ∧ NoAttr K (κ c) f) (sr : SR K κ ι μ H) (rl : RelS K κ ι H ρ σ) (ro : Rel K κ ι H o xo) (rv : Rel K κ ι H v xv)
    (h : PO' K κ W ι H D (putAt cs f o v ρ μ go)) : ∃ (a C dx : Addr) (gs : List (Str × V)), xo = .ref a ∧ H a = some (.ins C dx gs) ∧ Cls K C ∧ NoAttr K C f ∧ gs.length < 1000 ∧ HM ι H ι (L2.upd H a (.ins C dx (putF f xv gs))) ∧ (∃ μ', SR K κ ι μ' (L2.upd H a (.ins C dx (putF f xv gs))) ∧ PO' K κ W ι (L2.upd H a (.ins C dx (putF f xv gs))) D (go μ')) := by
  unfold putAt at h
  cases e1 : insAt μ o with
  | none => rw [e1] at h; exact False.elim h
  | some q =>
    obtain ⟨n, c, fs⟩ := q
    rw [e1] at h
    dsimp only at h
    split at h
    · rename_i hc
      obtain ⟨a, dx, gs, e3, e4, e5, e6, e7, e8⟩ := insAt_spec sr ro e1
      have mu : Mut (H a) := by rw [e7]; exact True.intro
      have m2 : HM ι H ι (L2.upd H a (.ins (κ c) dx (putF f xv gs))) := HM.wr mu (List.mem_of_getElem? e5)
      refine ⟨a, _, dx, gs, e4, e7, (hk c hc.1).1, (hk c hc.1).2, by rw [← e8.length]; exact hc.2, m2, _, sr.write (o := .ins c (putFA f v fs)) e5 mu ⟨dx, _, upd_same, ((e8.put rv).mono (List.prefix_refl _) m2.w)⟩, PO'.mono (List.prefix_refl _) m2 h⟩
    · exact False.elim h
def sFldP (cs : List Nat) (f : Str) (ro rv : AE) : AS := fun ρ μ => (rv ρ μ).out ρ fun v μ1 => (ro ρ μ1).out ρ fun o μ2 => putAt cs f o v ρ μ2 fun μ3 => .nx ρ μ3
theorem DS.fldP (cs : List Nat) (hk : ∀ c ∈ cs, Cls X.K (κ c) ∧ NoAttr X.K (κ c) f) (ho : DE κ X o ro) (hv : DE κ X e rv) (hs : swapsWith e (some (.Attribute o f pos')) pos.line X.env = pure false := by rfl) : DS κ X (.Assign [.Attribute o f pos'] e pos) (sFldP cs f ro rv) := fun W tk => by
  obtain ⟨to, po, io⟩ := ho W tk
  obtain ⟨tv, pv, iv⟩ := hv W tk
  refine ⟨sFld X.K to tv f, ps_fld po pv hs, fun D σ H ι ρ μ sr rl h => ?_⟩
  refine iv σ H _ ι ρ μ sr rl (PO'.bind rl h fun v μ1 ι1 H1 p1 m1 sr1 h1 y ry => ?_)
  have rl1 := rl.mono p1 m1
  refine io σ H1 _ ι1 ρ μ1 sr1 rl1 (PO'.bind rl1 h1 fun o μ2 ι2 H2 p2 m2 sr2 h2 x rx => ?_)
  obtain ⟨a, C, dx, gs, e1, e2, e3, e4, e5, m3, μ', sr3, h3⟩ := putAt_ok hk sr2 (rl1.mono p2 m2) rx (ry.mono p2 m2) h2
  exact ⟨a, C, dx, gs, e1, e2, e3, e4, e5, h3 ι2 _ σ (List.prefix_refl _) (HM.refl _) sr3 ((rl1.mono p2 m2).mono (List.prefix_refl _) m3)⟩

def gFldT (K : PySem.W.Frag) (ta : TE) (f : Str) : TG := fun v σ H Q => ta σ H fun x H1 => ∃ a C dx gs, x = .ref a ∧ H1 a = some (.ins C dx gs) ∧ Cls K C ∧ NoAttr K C f ∧ gs.length < 1000 ∧ Q σ (L2.upd H1 a (.ins C dx (putF f v gs)))
theorem pg_fld {ta : TE} (ho : PE X o ta) (ha : ∀ v, assign (.Attribute o f pos) X.env v = (do
    let ov ← holding [v] (eval o X.env)
    standAt pos.atName
    holding [v, ov] (setAttr ov f v)
    release [v, ov] []) := by intro _; rfl) : L2.PG X (.Attribute o f pos) (gFldT X.K ta f) := by
  refine ⟨fun pins s σ H v u Q I r h => ?_⟩
  rw [ha]
  refine wpAny_bind (wpAny_holding (thn (ho.run pins s σ H _ I h) fun ov s1 ⟨x, H1, I1, r1, a, C, dx, gs, ex, ea, c, n, l, q1⟩ => ?_))
  subst ex
  obtain rfl : ov = Value.ref a := r1
  refine wpAny_bind (wpAny_standAt (wpAny_bind (wpAny_holding (setattr_ok I1 ea c n l r fun s3 I3 => ?_))))
  exact wpAny_release ⟨σ, _, I3, q1⟩
def DGF (κ : Kap) (X : Cx) (es : List Expr) (r : List AV → AS) : Prop := ∀ W, Takes X W → ∃ t, PGs X es t ∧ ∀ (D : Ends) (σ : St) (H : Hp) (ι : List Addr) (ρ : Loc) (μ : Store) (vs : List AV) (xs : List V), SR X.K κ ι μ H → RelS X.K κ ι H ρ σ → RelL X.K κ ι H vs xs → PO' X.K κ W ι H D (r vs ρ μ) → t xs σ H D.nx
def gF0 : List AV → AS := fun vs ρ μ => match vs with
  | [] => .nx ρ μ
  | _ => .bad
def gF1 (cs : List Nat) (f : Str) (ro : AE) (r : List AV → AS) : List AV → AS := fun vs ρ μ => match vs with
  | v :: vs => (ro ρ μ).out ρ fun o μ2 => putAt cs f o v ρ μ2 fun μ3 => r vs ρ μ3
  | [] => .bad
theorem DGF.nil : DGF κ X [] gF0 := fun W tk => ⟨_, pgs_nil, fun D σ H ι ρ μ vs xs sr rl r h => by
  cases r with
  | nil => exact ⟨rfl, h ι H σ (List.prefix_refl _) (HM.refl _) sr rl⟩
  | cons _ _ => exact False.elim h⟩
theorem DGF.fld {r : List AV → AS} (cs : List Nat) (hk : ∀ c ∈ cs, Cls X.K (κ c) ∧ NoAttr X.K (κ c) f) (ho : DE κ X o ro) (hr : DGF κ X es r) (hs : (assignEach (.Attribute o f pos :: es) X.env).map (·.2) = assign (.Attribute o f pos) X.env :: (assignEach es X.env).map (·.2) := by rfl) : DGF κ X (.Attribute o f pos :: es) (gF1 cs f ro r) := fun W tk => by
  obtain ⟨to, po, io⟩ := ho W tk
  obtain ⟨t, pt, it⟩ := hr W tk
  refine ⟨_, pgs_cons (pg_fld po) pt hs, fun D σ H ι ρ μ vs xs sr rl rv h => ?_⟩
  cases rv with
  | nil => exact False.elim h
  | cons r1 r2 =>
    rename_i v x vs xs
    refine ⟨x, xs, rfl, ?_⟩
    refine io σ H _ ι ρ μ sr rl (PO'.bind rl h fun o μ2 ι2 H2 p2 m2 sr2 h2 xo rx => ?_)
    have rl2 := rl.mono p2 m2
    obtain ⟨a, C, dx, gs, e1, e2, e3, e4, e5, m3, μ', sr3, h3⟩ := putAt_ok hk sr2 rl2 rx (r1.mono p2 m2) h2
    exact ⟨a, C, dx, gs, e1, e2, e3, e4, e5, it D σ _ ι2 ρ μ' vs xs sr3 (rl2.mono (List.prefix_refl _) m3) ((r2.mono p2 m2).mono (List.prefix_refl _) m3) h3⟩
def sAsgF (r : AE) (g : List AV → AS) (n : Nat) : AS := fun ρ μ => (r ρ μ).out ρ fun v μ1 => match v with
  | .tup vs => if vs.length = n then g vs ρ μ1 else .bad
  | _ => .bad
theorem DS.asgF {g : List AV → AS} {ts : List Expr} {k n : Nat} (hc : X.calm = true) (hg : DGF κ X ts g) (ha : DE κ X e ra) (hn : (assignEach ts X.env).length = n := by rfl) (hst : (assignEach ts X.env).findIdx? (·.1) = none := by rfl) (hs : swapsWithSole [.Tuple ts k pos'] e pos.line X.env = pure false := by rfl) (hw : swappedStores [.Tuple ts k pos'] e X.env = pure none := by rfl)
    (h1 : (assignEach [.Tuple ts k pos'] X.env).map (·.2) = [assign (.Tuple ts k pos') X.env] := by rfl) : DS κ X (.Assign [.Tuple ts k pos'] e pos) (sAsgF ra g n) := fun W tk => by
  obtain ⟨t, p, j⟩ := ha W tk
  obtain ⟨u, q, l⟩ := hg W tk
  refine ⟨_, ps_asg p (pg_tup hc q hn hst) hs hw h1, fun D σ H ι ρ μ sr rl h => ?_⟩
  refine j σ H _ ι ρ μ sr rl (PO'.bind rl h fun v μ1 ι1 H1 p1 m1 sr1 h1 x rx => ?_)
  split at h1
  · rename_i vs
    split at h1
    · rename_i hl
      cases rx with
      | tup hq r => exact ⟨_, _, rfl, hq, by rw [← r.length]; exact hl, l D σ H1 ι1 ρ μ1 vs _ sr1 (rl.mono p1 m1) r h1⟩
    · exact False.elim h1
  · exact False.elim h1

def eMkI (c : Nat) (r : Fn) (a : AA) : AE := fun ρ μ => (a ρ μ).bind fun as μ1 => (r (.loc μ1.length :: as) (μ1 ++ [.ins c []])).bind fun v μ2 => match v with
  | .non => .ok (.loc μ1.length) μ2
  | _ => .bad
theorem guards_under {A : Around} {C : Addr} {us : List Value} (h : A.guards = some []) : (A.under (.builtin "type.__call__" ⟨.ref C :: us, []⟩)).guards = some [] := by
  first | exact h | (simpa [Around.under] using h)
theorem DE.mki {fI : Addr} {fd : FuncData} {ps : List Str} {r : Fn} (M : Mk X.K (κ c) fI) (cl : Cl X (k + 1)) (F : FnD κ X.prog X.w X.K X.mg X.base k fI fd ps r) (hg : Gl X x) (hm : X.mg x = some (.ref (κ c))) (hb : Binds X.K fd ps [])
    (ha : DA κ X (e :: es) rs) (hdb : (x == ("__debug__" : Str)) = false := by decide) (he : starEach (e :: es) X.env = (false, eval e X.env) :: starEach es X.env := by rfl) (hpl : (backTo pos (starEach es X.env)).any (·.1) = false := by rfl) :
    DE κ X (.Call (.Name x p) (e :: es) [] pos) (eMkI c r rs) := fun W tk => by
  obtain ⟨t, q, i⟩ := ha W tk
  refine ⟨fun σ H Q => t σ H fun vs H1 => ∃ (ι : List Addr) (μ : Store) (as : List AV), SR X.K κ ι μ H1 ∧ RelL X.K κ ι H1 as vs ∧ PG X.K κ W σ ι H1 (CV X.K κ Q) ((r (.loc μ.length :: as) (μ ++ [.ins c []])).bind fun v μ2 => match v with
    | .non => .ok (.loc μ.length) μ2
    | _ => .bad), ⟨fun pins s σ H Q I h => ?_⟩, fun σ H Q ι ρ μ sr rl h => ?_⟩
  · refine wpAny_Call_Name_kw (ld_glob I hg hm ?_ hdb)
    refine PySem.W.callWith_K (h₀ := X.base) I.ok.mod.kin M.kp (thn (q.run pos pins s σ H _ I h) fun us s1 ⟨vs, H1, I1, rv, ι, μ, as, sr, ra, h1⟩ => ⟨I1.kIn, ?_⟩) he hpl
    have nx : H1 (s1.heap.objs.size + 1) = none := I1.hok.fresh (Nat.le_succ _)
    have nd : H1 s1.heap.objs.size = none := I1.hok.fresh (Nat.le_refl _)
    have hne : s1.heap.objs.size ≠ s1.heap.objs.size + 1 := Nat.ne_of_lt (Nat.lt_succ_self _)
    generalize ex : s1.heap.objs.size + 1 = x at *
    have I2 := Inv.made (C := κ c) I1
    rw [ex] at I2
    have nx1 : L2.upd H1 s1.heap.objs.size (.own x) x = none := by rw [upd_ne (Ne.symm hne)]; exact nx
    have mA : HM ι H1 ι (L2.upd H1 s1.heap.objs.size (.own x)) := HM.fresh nd
    have mB : HM ι (L2.upd H1 s1.heap.objs.size (.own x)) ι (L2.upd (L2.upd H1 s1.heap.objs.size (.own x)) x (.ins (κ c) s1.heap.objs.size [])) := HM.fresh nx1
    have mC := (mA.trans mB).more nx
    have sr2 : SR X.K κ (ι ++ [x]) (μ ++ [.ins c []]) (L2.upd (L2.upd H1 s1.heap.objs.size (.own x)) x (.ins (κ c) s1.heap.objs.size [])) :=
      ((sr.new nd).new nx1).alloc ⟨_, [], upd_same, .nil⟩ (sr.notin nx) (by rw [upd_same]; simp) (by rw [upd_same]; trivial)
    have hl0 : (AV.loc μ.length :: as).length = ps.length := by
      by_cases z : (AV.loc μ.length :: as).length = ps.length
      · exact z
      · rw [F.len _ _ z] at h1; exact False.elim h1
    have rself : Rel X.K κ (ι ++ [x]) (L2.upd (L2.upd H1 s1.heap.objs.size (.own x)) x (.ins (κ c) s1.heap.objs.size [])) (.loc μ.length) (.ref x) := .loc (by rw [← sr.len]; simp)
    have ra2 : RelL X.K κ (ι ++ [x]) (L2.upd (L2.upd H1 s1.heap.objs.size (.own x)) x (.ins (κ c) s1.heap.objs.size [])) (AV.loc μ.length :: as) (V.ref x :: vs) := .cons rself (ra.mono (List.prefix_append _ _) mC)
    have r2 : Vals (V.ref x :: vs) (Value.ref x :: us) := .cons rfl rv
    have hl2 : (Value.ref x :: us ++ ([] : List Value)).length = ps.length := by rw [List.append_nil, ← r2.length, ← ra2.length]; exact hl0
    have hbd := hb _ (Value.ref x :: us) I2.kIn hl2
    rw [List.append_nil] at hbd
    have hq : PG X.K κ (fun cls d _ H' => W cls d σ H') [] (ι ++ [x]) (L2.upd (L2.upd H1 s1.heap.objs.size (.own x)) x (.ins (κ c) s1.heap.objs.size [])) (CV X.K κ fun v H2 => v = .non ∧ Q (.ref x) H2) (r (.loc μ.length :: as) (μ ++ [.ins c []])) := by
      cases er : r (.loc μ.length :: as) (μ ++ [.ins c []]) with
      | bad => rw [er] at h1; exact h1
      | ex c2 v2 μ2 =>
        rw [er] at h1
        exact PG.mono (W := fun cls d _ H' => W cls d σ H') (σ := []) (C := CV X.K κ fun v H2 => v = .non ∧ Q (.ref x) H2) (r := Res.ex c2 v2 μ2) (List.prefix_append _ _) mC (by exact h1)
      | ok v2 μ2 =>
        rw [er] at h1
        intro ι' H' p' m' sr' y ry
        simp only [Res.bind_ok] at h1
        cases v2 with
        | non =>
          cases ry
          exact ⟨rfl, h1 ι' H' ((List.prefix_append _ _).trans p') (mC.trans m') sr' _ (rself.mono p' m')⟩
        | _ => exact False.elim h1
    refine wpAny_call (make_map (f := fI) I1.kIn M.makes M.init (beq_iff_eq.mp M.fn) ?_)
    rw [ex]
    refine codeAny_mono (F.run _ X.stack _ _ ⟨Value.ref x :: us, []⟩ (Value.ref x :: us) (V.ref x :: vs) (.loc μ.length :: as) (ι ++ [x]) (μ ++ [.ins c []]) _ (fun cls d H' => W cls d σ H') (cl.room.make (κ c) us []) (guards_under cl.gd)
      (I2.env0.make (κ c) us []) hbd r2 ra2 (by rw [← ra2.length]; exact hl0) sr2 hq) fun rr s' hq' => ?_
    cases rr with
    | error e => exact tk e s' (XE.of_call I2 (fun _ _ _ z => z) hq')
    | ok fl =>
      cases fl with
      | ret u =>
        obtain ⟨v, H', I3, rv3, ev, q3⟩ := I2.after hq'
        subst ev
        exact ⟨rv3, ⟨V.ref x, H', I3, rfl, q3⟩⟩
      | next => exact False.elim hq'
      | brk => exact False.elim hq'
      | cont => exact False.elim hq'
  · exact i σ H _ ι ρ μ sr rl (PG.bind h fun as μ1 ι1 H1 p1 m1 sr1 h1 vs rv => ⟨ι1, μ1, as, sr1, rv, h1⟩)

def eMeth (cs : List Nat) (m : Str) (rm : Nat → Fn) (ro : AE) (a : AA) : AE := fun ρ μ => (ro ρ μ).bind fun o μ1 => match insAt μ1 o with
  | some (_, c, fs) => if c ∈ cs ∧ (fs.lookup m).isNone = true then (a ρ μ1).bind fun as μ2 => rm c (o :: as) μ2 else .bad
  | none => .bad

structure MethD (κ : Kap) (X : Cx) (k : Nat) (c : Nat) (m : Str) (r : Fn) : Prop where
  ex : ∃ (f : Addr) (fd : FuncData) (ps : List Str), Cls X.K (κ c) ∧ Meth X.K (κ c) m f ∧ FnD κ X.prog X.w X.K X.mg X.base k f fd ps r ∧ Binds X.K fd ps []
theorem DE.meth {pl : Sem Bool} (cl : Cl X k) (cs : List Nat) (rm : Nat → Fn) (hm : ∀ c ∈ cs, MethD κ X k c m (rm c)) (ho : DE κ X o ro) (ha : DA κ X (e :: es) rs)
    (hst : starEach (e :: es) X.env = (false, eval e X.env) :: starEach es X.env := by rfl) (hpl : (backTo pos (starEach es X.env)).any (·.1) = false := by rfl)
    (ht : eval (.Call (.Attribute o m apos) (e :: es) [] pos) X.env = (do
      let ov ← eval o X.env
      standAt apos.atName
      let (f, first) ← holding [ov] (getMethod ov m pl)
      callWith pos f first (backTo pos (starEach (e :: es) X.env)) (backToKw pos (keywordEach [] X.env))) := by rfl) :
    DE κ X (.Call (.Attribute o m apos) (e :: es) [] pos) (eMeth cs m rm ro rs) := fun W tk => by
  obtain ⟨to, po, io⟩ := ho W tk
  obtain ⟨ta, pa, ia⟩ := ha W tk
  refine ⟨fun σ H Q => ∃ (ι : List Addr) (ρ : Lr.Loc) (μ : Store), SR X.K κ ι μ H ∧ RelS X.K κ ι H ρ σ ∧ PG X.K κ W σ ι H (CV X.K κ Q) (eMeth cs m rm ro rs ρ μ), ⟨fun pins s σ H Q I h => ?_⟩, fun σ H Q ι ρ μ sr rl h => ⟨ι, ρ, μ, sr, rl, h⟩⟩
  obtain ⟨ι, ρ, μ, sr, rl, h⟩ := h
  refine PySem.W.methodCall_KW (pl := pl) (thn (po.run pins s σ H (fun x H1 => ∃ (a dx : Addr) (gs : List (Str × V)) (c : Nat) (ι1 : List Addr) (μ1 : Store) (v : AV), c ∈ cs ∧ x = .ref a ∧ H1 a = some (.ins (κ c) dx gs) ∧ gs.lookup m = none ∧ SR X.K κ ι1 μ1 H1 ∧ RelS X.K κ ι1 H1 ρ σ ∧ Rel X.K κ ι1 H1 v x ∧
      PG X.K κ W σ ι1 H1 (CV X.K κ Q) ((rs ρ μ1).bind fun as μ2 => rm c (v :: as) μ2)) I (io σ H _ ι ρ μ sr rl (PG.bind h fun v μ1 ι1 H1 p1 m1 sr1 h1 x rx => ?_))) fun u s1 ⟨x, H1, I1, rx, a, dx, gs, c, ι1, μ1, v, hc, ex, ea, hl, sr1, rl1, rv, h1⟩ => ?_) ht
  · cases e1 : insAt μ1 v with
    | none => rw [e1] at h1; exact False.elim h1
    | some q =>
      obtain ⟨n, c, fs⟩ := q
      rw [e1] at h1
      dsimp only at h1
      split at h1
      · rename_i hc
        obtain ⟨a, dx, gs, e3, e4, e5, e6, e7, e8⟩ := insAt_spec sr1 rx e1
        exact ⟨a, dx, gs, c, ι1, μ1, v, hc.1, e4, e7, e8.lookN (Option.isNone_iff_eq_none.mp hc.2), sr1, rl.mono p1 m1, rx, h1⟩
      · exact False.elim h1
  · subst ex
    obtain rfl : u = Value.ref a := rx
    obtain ⟨f, fd, ps, kc, km, F, hb⟩ := (hm c hc).ex
    refine getmeth_ok I1 ea kc km hl ?_
    refine PySem.W.callWith_K (first := [.ref a]) (h₀ := X.base) I.ok.mod.kin km.kp (thn (pa.run pos pins s1 σ H1 (fun vs H2 => ∃ (ι2 : List Addr) (μ2 : Store) (as : List AV), SR X.K κ ι2 μ2 H2 ∧ RelL X.K κ ι2 H2 (v :: as) (V.ref a :: vs) ∧ PG X.K κ W σ ι2 H2 (CV X.K κ Q) (rm c (v :: as) μ2)) I1
      (ia σ H1 _ ι1 ρ μ1 sr1 rl1 (PG.bind h1 fun as μ2 ι2 H2 p2 m2 sr2 h2 vs rvs => ⟨ι2, μ2, as, sr2, .cons (rv.mono p2 m2) rvs, h2⟩))) fun us s2 ⟨vs, H2, I2, r, ι2, μ2, as, sr2, ra, h2⟩ => ⟨I2.kIn, ?_⟩) hst hpl
    have hl1 : (v :: as).length = ps.length := by
      by_cases z : (v :: as).length = ps.length
      · exact z
      · rw [F.len _ μ2 z] at h2; exact False.elim h2
    have r2 : Vals (V.ref a :: vs) (Value.ref a :: us) := .cons rfl r
    have hl2 : (Value.ref a :: us ++ ([] : List Value)).length = ps.length := by rw [List.append_nil, ← r2.length, ← ra.length]; exact hl1
    have hbd := hb s2 (.ref a :: us) I2.kIn hl2
    rw [List.append_nil] at hbd
    refine wpAny_call (codeAny_mono (F.run X.A X.stack s2 H2 ⟨.ref a :: us, []⟩ (.ref a :: us) (.ref a :: vs) (v :: as) ι2 μ2 Q (fun cls d H' => W cls d σ H') cl.room cl.gd I2.env0 hbd r2 ra (by rw [← ra.length]; exact hl1) sr2 (by
      cases er : rm c (v :: as) μ2 with
      | ok v μ2 => rw [er] at h2; exact h2
      | ex c v μ2 => rw [er] at h2; exact h2
      | bad => rw [er] at h2; exact h2)) fun rr s' hq => ?_)
    cases rr with
    | error e => exact tk e s' (XE.of_call I2 (fun _ _ _ z => z) hq)
    | ok fl =>
      cases fl with
      | ret u => exact I2.after hq
      | next => exact False.elim hq
      | brk => exact False.elim hq
      | cont => exact False.elim hq
theorem DE.meth0 {pl : Sem Bool} (cl : Cl X k) (cs : List Nat) (rm : Nat → Fn) (hm : ∀ c ∈ cs, MethD κ X k c m (rm c)) (ho : DE κ X o ro)
    (ht : eval (.Call (.Attribute o m apos) [] [] pos) X.env = (do
      let ov ← eval o X.env
      standAt apos.atName
      let (f, first) ← holding [ov] (getMethod ov m pl)
      callWith pos f first (backTo pos (starEach [] X.env)) (backToKw pos (keywordEach [] X.env))) := by rfl) :
    DE κ X (.Call (.Attribute o m apos) [] [] pos) (eMeth cs m rm ro aNil) := fun W tk => by
  obtain ⟨to, po, io⟩ := ho W tk
  refine ⟨fun σ H Q => ∃ (ι : List Addr) (ρ : Lr.Loc) (μ : Store), SR X.K κ ι μ H ∧ RelS X.K κ ι H ρ σ ∧ PG X.K κ W σ ι H (CV X.K κ Q) (eMeth cs m rm ro aNil ρ μ), ⟨fun pins s σ H Q I h => ?_⟩, fun σ H Q ι ρ μ sr rl h => ⟨ι, ρ, μ, sr, rl, h⟩⟩
  obtain ⟨ι, ρ, μ, sr, rl, h⟩ := h
  refine PySem.W.methodCall_KW (pl := pl) (thn (po.run pins s σ H (fun x H1 => ∃ (a dx : Addr) (gs : List (Str × V)) (c : Nat) (ι1 : List Addr) (μ1 : Store) (v : AV), c ∈ cs ∧ x = .ref a ∧ H1 a = some (.ins (κ c) dx gs) ∧ gs.lookup m = none ∧ SR X.K κ ι1 μ1 H1 ∧ RelS X.K κ ι1 H1 ρ σ ∧ Rel X.K κ ι1 H1 v x ∧
      PG X.K κ W σ ι1 H1 (CV X.K κ Q) (rm c [v] μ1)) I (io σ H _ ι ρ μ sr rl (PG.bind h fun v μ1 ι1 H1 p1 m1 sr1 h1 x rx => ?_))) fun u s1 ⟨x, H1, I1, rx, a, dx, gs, c, ι1, μ1, v, hc, ex, ea, hl, sr1, rl1, rv, h1⟩ => ?_) ht
  · cases e1 : insAt μ1 v with
    | none => rw [e1] at h1; exact False.elim h1
    | some q =>
      obtain ⟨n, c, fs⟩ := q
      rw [e1] at h1
      dsimp only at h1
      split at h1
      · rename_i hc
        obtain ⟨a, dx, gs, e3, e4, e5, e6, e7, e8⟩ := insAt_spec sr1 rx e1
        exact ⟨a, dx, gs, c, ι1, μ1, v, hc.1, e4, e7, e8.lookN (Option.isNone_iff_eq_none.mp hc.2), sr1, rl.mono p1 m1, rx, h1⟩
      · exact False.elim h1
  · subst ex
    obtain rfl : u = Value.ref a := rx
    obtain ⟨f, fd, ps, kc, km, F, hb⟩ := (hm c hc).ex
    refine getmeth_ok I1 ea kc km hl ?_
    refine PySem.W.callWith_K0 (first := [.ref a]) I1.kIn km.kp ?_
    have hl1 : ([v] : List AV).length = ps.length := by
      by_cases z : ([v] : List AV).length = ps.length
      · exact z
      · rw [F.len _ μ1 z] at h1; exact False.elim h1
    have hl2 : ([Value.ref a] ++ ([] : List Value)).length = ps.length := hl1
    have hbd := hb s1 [.ref a] I1.kIn hl2
    rw [List.append_nil] at hbd
    refine wpAny_call (codeAny_mono (F.run X.A X.stack s1 H1 ⟨[.ref a], []⟩ [.ref a] [.ref a] [v] ι1 μ1 Q (fun cls d H' => W cls d σ H') cl.room cl.gd I1.env0 hbd (.cons rfl .nil) (.cons rv .nil) hl1 sr1 (by
      cases er : rm c [v] μ1 with
      | ok v μ2 => rw [er] at h1; exact h1
      | ex c v μ2 => rw [er] at h1; exact h1
      | bad => rw [er] at h1; exact h1)) fun rr s' hq => ?_)
    cases rr with
    | error e => exact tk e s' (XE.of_call I1 (fun _ _ _ z => z) hq)
    | ok fl =>
      cases fl with
      | ret u => exact I1.after hq
      | next => exact False.elim hq
      | brk => exact False.elim hq
      | cont => exact False.elim hq
end
end Lr

set_option maxHeartbeats 1000000

namespace Lr
open PySem PySem.Spec L2
open PyProof.Rows hiding St
def MC (X : Cx) (cs : List MatchCase) (t : V → TS) : Prop := ∀ (pins : List (Addr × Obj)) (s : Shared) (σ : St) (H : Hp) (D : Ends) (v : V) (u : Value) (first : Bool), Inv X pins σ H s → RelV v u → t v D σ H → wpAny (model X.prog X.w) X.A (matchCases cs X.env u first) (SP X pins D) X.xe s
def DMC (κ : Kap) (X : Cx) (cs : List MatchCase) (r : AV → AS) : Prop := ∀ W, Takes X W → ∃ t, MC X cs t ∧ ∀ (D : Ends) (σ : St) (H : Hp) (ι : List Addr) (ρ : Loc) (μ : Store) (v : AV) (x : V), SR X.K κ ι μ H → RelS X.K κ ι H ρ σ → Rel X.K κ ι H v x → PO' X.K κ W ι H D (r v ρ μ) → t x D σ H
def mc0 : AV → AS := fun _ ρ μ => .nx ρ μ
def mcSeq2 (i j : Nat) (g : AT) (b : AS) (r : AV → AS) : AV → AS := fun v ρ μ => match v with
  | .tup [x, y] => (g ((ρ.set i (some x)).set j (some y)) μ).out ((ρ.set i (some x)).set j (some y)) fun c μ1 => if c = true then b ((ρ.set i (some x)).set j (some y)) μ1 else r v ((ρ.set i (some x)).set j (some y)) μ1
  | .tup _ => r v ρ μ
  | _ => .bad
def sMatch (e : AE) (c : AV → AS) : AS := fun ρ μ => (e ρ μ).out ρ fun v μ1 => c v ρ μ1
theorem mcSeq2_2 {i j : Nat} {g : AT} {b : AS} {r : AV → AS} {x y : AV} {ρ : Loc} {μ : Store} : mcSeq2 i j g b r (.tup [x, y]) ρ μ = (g ((ρ.set i (some x)).set j (some y)) μ).out ((ρ.set i (some x)).set j (some y)) fun c μ1 => if c = true then b ((ρ.set i (some x)).set j (some y)) μ1 else r (.tup [x, y]) ((ρ.set i (some x)).set j (some y)) μ1 := rfl
theorem mcSeq2_n {i j : Nat} {g : AT} {b : AS} {r : AV → AS} {ρ : Loc} {μ : Store} : ∀ {vs : List AV}, vs.length ≠ 2 → mcSeq2 i j g b r (.tup vs) ρ μ = r (.tup vs) ρ μ
  | [], _ => rfl
  | [_], _ => rfl
  | [_, _], h => absurd rfl h
  | _ :: _ :: _ :: _, _ => rfl
theorem mcSeq2_tup {i j : Nat} {g : AT} {b : AS} {r : AV → AS} {ρ : Loc} {μ : Store} {v : AV} (h : mcSeq2 i j g b r v ρ μ ≠ .bad) : ∃ vs, v = .tup vs := by
  cases v <;> first | exact ⟨_, rfl⟩ | exact absurd rfl h
section
variable {K : PySem.W.Frag} {κ : Kap} {ι : List Addr} {H : Hp}
theorem Rel.tup_inv {vs : List AV} {x : V} (r : Rel K κ ι H (.tup vs) x) : ∃ a xs, x = .ref a ∧ SqT K H a xs ∧ RelL K κ ι H vs xs := by
  cases r with
  | tup h r => exact ⟨_, _, rfl, h, r⟩
theorem RelL.cons_inv {v : AV} {vs : List AV} {xs : List V} (r : RelL K κ ι H (v :: vs) xs) : ∃ x ys, xs = x :: ys ∧ Rel K κ ι H v x ∧ RelL K κ ι H vs ys := by
  cases r with
  | cons h r => exact ⟨_, _, rfl, h, r⟩
theorem RelL.nil_inv {xs : List V} (r : RelL K κ ι H [] xs) : xs = [] := by
  cases r; rfl
theorem len2 {α : Type} : ∀ {vs : List α}, vs.length = 2 → ∃ z w, vs = [z, w]
  | [z, w], _ => ⟨z, w, rfl⟩
  | [], h => by cases h
  | [_], h => by cases h
  | _ :: _ :: _ :: _, h => by simp at h
end
section
variable {κ : Kap} {X : Cx} {e g : Expr} {re : AE} {rg : AT} {body : List Stmt} {rb : AS} {rest : List MatchCase} {rr : AV → AS} {i j : Nat} {x y : Str} {p1 p2 p3 pos : Pos}
theorem DMC.nil : DMC κ X [] mc0 := fun W tk => ⟨fun v D σ H => D.nx σ H, fun pins s σ H D v u first I r h => wpAny_matchCases_nil ⟨σ, H, I, h⟩, fun D σ H ι ρ μ v x sr rl r h => h ι H σ (List.prefix_refl _) (HM.refl _) sr rl⟩
theorem DMC.seq2 (hc : X.calm = true) (hN : X.N.Nodup) (hi : X.N[i]? = some x) (hj : X.N[j]? = some y) (hx : L2.Loc X.env.scope x) (hy : L2.Loc X.env.scope y) (fx : X.fn x = true ∨ X.env.scope.names.lookup x = some .local) (fy : X.fn y = true ∨ X.env.scope.names.lookup y = some .local)
    (hg : DT κ X g rg) (hb : DSs κ X body rb) (hr : DMC κ X rest rr) : DMC κ X (⟨.MatchSequence [.MatchAs none (some x) p1, .MatchAs none (some y) p2] p3, some g, body⟩ :: rest) (mcSeq2 i j rg rb rr) := fun W tk => by
  obtain ⟨tg, pg, ig⟩ := hg W tk
  obtain ⟨tb, pb, ib⟩ := hb W tk
  obtain ⟨tr, pr, ir⟩ := hr W tk
  refine ⟨fun v D σ H => ∃ a xs, v = .ref a ∧ SqT X.K H a xs ∧ ((∃ z w, xs = [z, w] ∧ tg ((σ.set i (some z)).set j (some w)) H fun c H1 => if c = true then tb D ((σ.set i (some z)).set j (some w)) H1 else tr v D ((σ.set i (some z)).set j (some w)) H1) ∨ (xs.length ≠ 2 ∧ tr v D σ H)), fun pins s σ H D v u first I r h => ?_, fun D σ H ι ρ μ v x sr rl r h => ?_⟩
  · obtain ⟨a, xs, ev, hq, h⟩ := h
    subst ev
    obtain rfl : u = Value.ref a := r
    obtain ⟨its, rv, ht, hz⟩ := I.tuple hq
    refine wpAny_matchCases_cons ?_
    rcases h with ⟨z, w, ex, h⟩ | ⟨hl, h⟩
    · subst ex
      cases rv with
      | cons r1 rv =>
      cases rv with
      | cons r2 rv =>
      cases rv
      rename_i z1 w1
      · refine matchSeq_tuple_hit ht (by show (2 : Int) < 2 ^ 63; decide) rfl ?_
        refine unpackItems_tuple (items := #[z1, w1]) (I.ok.hd hc) (by exact ht) fun h' hx' => ?_
        have I1 : Inv X pins σ H { s with heap := h', toks := s.toks + 1 + 1 } := I.kept (t' := s.toks + 1 + 1) fun b o e => hx' b o (Nat.ne_of_lt (Heap.lt_size e)) e
        refine wpAny_matchEach_cons (wpAny_matchPattern_Capture ?_)
        refine wpAny_matchEach_cons (wpAny_matchPattern_Capture ?_)
        refine wpAny_matchEach_nil ?_
        refine wpAny_assignInOrder_more (wpAny_bindName (store_ok I1 hN hi hx r1 (fun s2 I2 => ?_) fx))
        refine wpAny_assignInOrder_more (wpAny_bindName (store_ok I2 hN hj hy r2 (fun s3 I3 => ?_) fy))
        refine wpAny_assignInOrder_none ?_
        refine thn (pg.run pins s3 _ H _ I3 h) fun c s4 ⟨H4, I4, q4⟩ => ?_
        cases c with
        | true => exact pb.run pins s4 _ H4 D I4 q4
        | false => exact pr pins s4 _ H4 D (.ref a) _ _ I4 rfl q4
    · refine matchSeq_tuple_miss ht (by rw [List.size_toArray, ← rv.length]; rw [sizeLine_eq] at hz; omega) ?_ ?_
      · show its.toArray.size ≠ 2
        rw [List.size_toArray, ← rv.length]
        exact hl
      · exact pr pins _ σ H D (.ref a) _ _ (I.kept (h' := s.heap) (t' := s.toks + 1 + 1) fun b o e => e) rfl h
  · obtain ⟨vs, ev⟩ := mcSeq2_tup (fun z => by rw [z] at h; exact h)
    subst ev
    have hv := r
    obtain ⟨a, xs, ex, hq, rl2⟩ := r.tup_inv
    refine ⟨a, xs, ex, hq, ?_⟩
    by_cases hl : vs.length = 2
    · obtain ⟨z, w, rfl⟩ := len2 hl
      obtain ⟨z1, ys, rfl, r1, rl3⟩ := rl2.cons_inv
      obtain ⟨w1, ys, rfl, r2, rl4⟩ := rl3.cons_inv
      obtain rfl := rl4.nil_inv
      rw [mcSeq2_2] at h
      refine .inl ⟨z1, w1, rfl, ?_⟩
      have rls : RelS X.K κ ι H ((ρ.set i (some z)).set j (some w)) ((σ.set i (some z1)).set j (some w1)) := (rl.set r1).set r2
      refine ig _ H _ ι _ μ sr rls (PO'.bind rls h fun c μ1 ι1 H1 q1 m1 sr1 h1 => ?_)
      cases c with
      | true => exact ib D _ H1 ι1 _ μ1 sr1 (rls.mono q1 m1) h1
      | false => exact ir D _ H1 ι1 _ μ1 _ _ sr1 (rls.mono q1 m1) (hv.mono q1 m1) h1
    · rw [mcSeq2_n hl] at h
      exact .inr ⟨by rw [← rl2.length]; exact hl, ir D σ H ι ρ μ _ _ sr rl hv h⟩
theorem DS.mtch {cs : List MatchCase} {rc : AV → AS} (he : DE κ X e re) (hm : DMC κ X cs rc) : DS κ X (.Match e cs pos) (sMatch re rc) := fun W tk => by
  obtain ⟨t, p, i⟩ := he W tk
  obtain ⟨u, q, l⟩ := hm W tk
  refine ⟨fun D σ H => t σ H fun v H1 => u v D σ H1, ⟨fun pins s σ H D I h => ?_⟩, fun D σ H ι ρ μ sr rl h => ?_⟩
  · exact wpAny_Match (thn (p.run pins s σ H _ I h) fun w s1 ⟨v, H1, I1, r, h1⟩ => q pins s1 σ H1 D v w true I1 r h1)
  · exact i σ H _ ι ρ μ sr rl (PO'.bind rl h fun v μ1 ι1 H1 p1 m1 sr1 h1 x rx => l D σ H1 ι1 ρ μ1 v x sr1 (rl.mono p1 m1) rx h1)
end
end Lr

set_option maxHeartbeats 1000000

namespace Lr
open PySem PySem.Spec L2
open PyProof.Rows hiding St
def kI (K : PySem.W.Frag) (κ : Kap) (W : WX) (r : AI) : TI := fun σ H R => ∃ (ι : List Addr) (ρ : Loc) (μ : Store), SR K κ ι μ H ∧ RelS K κ ι H ρ σ ∧ PG K κ W σ ι H (fun src ι' H' => ∀ J, JR K κ ι' H' src J → R J H') (r ρ μ)
theorem DI.kan {κ : Kap} {X : Cx} {tg e : Expr} {r : AI} {W : WX} (h : DI κ X tg e r) (tk : Takes X W) : PI X tg e (kI X.K κ W r) := by
  obtain ⟨t, p, i⟩ := h W tk
  exact ⟨fun pins s σ H R I ⟨ι, ρ, μ, sr, rl, z⟩ => p.run pins s σ H R I (i σ H R ι ρ μ sr rl z)⟩
def lcF2 (g : AG) (tt : AT) (it1 : AI) (vs1 : List Nat) (g1 : AG) (tt1 : AT) (te : AE) (src : Src) : Nat → Nat → Loc → List AV → Store → Res (List AV)
  | 0, _, _, _, _ => .bad
  | m + 1, i, ρ, acc, μ => match src.at i μ with
    | none => .bad
    | some none => .ok acc μ
    | some (some v) => match g v ρ with
      | none => .bad
      | some ρ1 => (tt ρ1 μ).nox.bind fun b μ1 => if b then (it1 ρ1 μ1).nox.bind fun src1 μ2 => (lcF g1 tt1 te src1 FUEL 0 (wipeA ρ1 vs1) acc μ2).bind fun acc2 μ3 => lcF2 g tt it1 vs1 g1 tt1 te src m (i + 1) ρ acc2 μ3
        else lcF2 g tt it1 vs1 g1 tt1 te src m (i + 1) ρ acc μ1
def aLc2 (it : AI) (vs : List Nat) (g : AG) (tt : AT) (it1 : AI) (vs1 : List Nat) (g1 : AG) (tt1 : AT) (te : AE) : AA := fun ρ μ => (it ρ μ).bind fun src μ1 => lcF2 g tt it1 vs1 g1 tt1 te src FUEL 0 (wipeA ρ vs) [] μ1
abbrev CW (K : PySem.W.Frag) (κ : Kap) (ι : List Addr) (H : Hp) (Q : VK) : List AV → List Addr → Hp → Prop := fun vs ι' H' => ∀ (a : Addr) (xs : List V), RelL K κ ι' H' vs xs → H' a = some (.lst xs) → a ∉ ι' → H a = none → Q (.ref a) H'
section
variable {κ : Kap} {X : Cx} {k : Nat} {elt tg iter tg1 iter1 : Expr} {ifs ifs1 : List Expr} {scope : Scope} {own : List (Str × Nat)} {it it1 : AI} {is is1 : List Nat} {g g1 : AG} {tt tt1 : AT} {te : AE} {pos : Pos}
theorem im_lc2 {wi : TI} {W : WX} {vs vs1 : List Nat} (hv : ∀ i ∈ is, i ∈ vs) (hv1 : ∀ i ∈ is1, i ∈ vs1) (hw : ∀ (σ : St) (H : Hp) (R : It → Hp → Prop) (ι : List Addr) (ρ : Loc) (μ : Store), SR X.K κ ι μ H → RelS X.K κ ι H ρ σ → PG X.K κ W σ ι H (fun src ι' H' => ∀ J, JR X.K κ ι' H' src J → R J H') (it ρ μ) → wi σ H R) :
    ∀ σ H Q ι ρ μ, SR X.K κ ι μ H → RelS X.K κ ι H ρ σ → PG X.K κ W σ ι H (CW X.K κ ι H Q) (aLc2 it vs g tt it1 vs1 g1 tt1 te ρ μ) →
      tLc2 wi (kG X.K κ is g) (kT X.K κ W0 tt) (kI X.K κ W0 it1) (kG X.K κ is1 g1) (kT X.K κ W0 tt1) (kE X.K κ W0 te) vs vs1 σ H Q := fun σ H Q ι ρ μ sr rl h => by
  refine hw σ H _ ι ρ μ sr rl (PG.bind0 h fun src μ1 ι1 H1 p1 m1 sr1 h1 J hJ D hD => ?_)
  have hD0 : H D = none := by
    cases e : H D with
    | none => rfl
    | some u =>
      by_cases z : D ∈ ι
      · exact absurd hD (sr1.on D (p1.subset z))
      · exact absurd hD (m1.live z e)
  refine ⟨fun i m H' => ∃ (ι' : List Addr) (acc : List AV) (av : List V) (μ' : Store), HM ι1 H1 ι' H' ∧ SR X.K κ ι' μ' H' ∧ D ∉ ι' ∧ H' D = some (.lst av) ∧ RelL X.K κ ι' H' acc av ∧
    PG X.K κ W σ ι H (CW X.K κ ι H Q) (lcF2 g tt it1 vs1 g1 tt1 te src m i (wipeA ρ vs) acc μ'),
    ⟨FUEL, ι1, [], [], μ1, HM.fresh hD, sr1.new hD, sr1.notin hD, upd_same, .nil, h1⟩, ?_⟩
  rintro i m H' ⟨ι', acc, av, μ', hm, sr', hn, eD, ra, h'⟩
  cases m with
  | zero => exact False.elim h'
  | succ m =>
    have hj := hJ i ι' H' μ' hm.v sr'
    unfold lcF2 at h'
    cases e : src.at i μ' with
    | none => rw [e] at h'; exact False.elim h'
    | some o =>
      rw [e] at h' hj
      cases o with
      | none => exact .inl ⟨hj, h' ι' H' (p1.trans hm.pre) (m1.trans hm) sr' D av ra eD hn hD0⟩
      | some v =>
        simp only at h' hj
        cases eg : g v (wipeA ρ vs) with
        | none => rw [eg] at h'; exact False.elim h'
        | some ρ1 =>
          rw [eg] at h'
          simp only at h'
          refine .inr ⟨hj.1, fun H2 => ∃ (ι2 : List Addr) (acc2 : List AV) (av2 : List V) (μ2 : Store), HM ι1 H1 ι2 H2 ∧ SR X.K κ ι2 μ2 H2 ∧ D ∉ ι2 ∧ H2 D = some (.lst av2) ∧ RelL X.K κ ι2 H2 acc2 av2 ∧
            PG X.K κ W σ ι H (CW X.K κ ι H Q) (lcF2 g tt it1 vs1 g1 tt1 te src m (i + 1) (wipeA ρ vs) acc2 μ2), fun H2 z => ⟨m, Nat.lt_succ_self _, z⟩, fun x H2 hy => ?_⟩
          obtain ⟨m2, sr2, rx⟩ := hj.2 x H2 hy
          have rw2 : RelS X.K κ ι' H2 (wipeA ρ vs) (L2.wipe σ vs) := ((rl.mono p1 m1).mono hm.pre hm).wipe vs |>.mono (List.prefix_refl _) m2
          refine ⟨ι', v, wipeA ρ vs, ρ1, rw2, rx, eg, fun σ2 rl2 hwp => ⟨?_, ?_⟩⟩
          · have z := hwp vs hv
            rw [z]
            exact wipe_twice
          · refine ⟨ι', ρ1, μ', sr2, rl2, PG.nox (PG.bindF (m1.trans (hm.trans m2)) h' fun b μ3 ι3 H3 p3 m3 sr3 h3 => ?_)⟩
            have hm3 := (hm.trans m2).trans m3
            have eD2 : H2 D = some (.lst av) := m2.oth D _ hn eD
            have eD3 : H3 D = some (.lst av) := m3.oth D _ hn eD2
            have hn3 : D ∉ ι3 := fun z => by
              have := m3.new D z hn
              rw [eD2] at this; cases this
            cases b with
            | false =>
              refine iteF ⟨ι3, acc, av, μ3, hm3, sr3, hn3, eD3, (ra.mono (List.prefix_refl _) m2).mono p3 m3, ?_⟩
              simpa using h3
            | true =>
              rw [if_pos rfl] at h3
              refine iteT ⟨ι3, ρ1, μ3, sr3, rl2.mono p3 m3, PG.nox (PG.bindF (m1.trans hm3) h3 fun src1 μ4 ι4 H4 p4 m4 sr4 h4 J1 hJ1 => ?_)⟩
              have eD4 : H4 D = some (.lst av) := m4.oth D _ hn3 eD3
              have hn4 : D ∉ ι4 := fun z => by
                have := m4.new D z hn3
                rw [eD3] at this; cases this
              have hm4 := hm3.trans m4
              have ra4 := (((ra.mono (List.prefix_refl _) m2).mono p3 m3).mono p4 m4)
              have rl4 := (rl2.mono p3 m3).mono p4 m4
              refine ⟨fun j n H' => ∃ (ι' : List Addr) (acc : List AV) (av : List V) (μ' : Store), HV ι4 H4 ι' H' ∧ HM ι1 H1 ι' H' ∧ SR X.K κ ι' μ' H' ∧ D ∉ ι' ∧ H' D = some (.lst av) ∧ RelL X.K κ ι' H' acc av ∧
                PG X.K κ W σ ι H (CW X.K κ ι H Q) ((lcF g1 tt1 te src1 n j (wipeA ρ1 vs1) acc μ').bind fun acc2 μ3 => lcF2 g tt it1 vs1 g1 tt1 te src m (i + 1) (wipeA ρ vs) acc2 μ3), ⟨FUEL, ι4, acc, av, μ4, (HM.refl _).v, hm4, sr4, hn4, eD4, ra4, h4⟩, ?_⟩
              rintro j n H5 ⟨ι5, acc5, av5, μ5, hm5, hm15, sr5, hn5, eD5, ra5, h5⟩
              cases n with
              | zero => exact False.elim h5
              | succ n =>
                have hj1 := hJ1 j ι5 H5 μ5 hm5 sr5
                unfold lcF at h5
                cases e1 : src1.at j μ5 with
                | none => rw [e1] at h5; exact False.elim h5
                | some o1 =>
                  rw [e1] at h5 hj1
                  cases o1 with
                  | none => exact .inl ⟨hj1, ι5, acc5, av5, μ5, hm15, sr5, hn5, eD5, ra5, h5⟩
                  | some v1 =>
                    simp only at h5 hj1
                    cases eg1 : g1 v1 (wipeA ρ1 vs1) with
                    | none => rw [eg1] at h5; exact False.elim h5
                    | some ρ2 =>
                      rw [eg1] at h5
                      simp only at h5
                      refine .inr ⟨hj1.1, fun H' => ∃ (ι' : List Addr) (acc : List AV) (av : List V) (μ' : Store), HV ι4 H4 ι' H' ∧ HM ι1 H1 ι' H' ∧ SR X.K κ ι' μ' H' ∧ D ∉ ι' ∧ H' D = some (.lst av) ∧ RelL X.K κ ι' H' acc av ∧
                        PG X.K κ W σ ι H (CW X.K κ ι H Q) ((lcF g1 tt1 te src1 n (j + 1) (wipeA ρ1 vs1) acc μ').bind fun acc2 μ3 => lcF2 g tt it1 vs1 g1 tt1 te src m (i + 1) (wipeA ρ vs) acc2 μ3), fun H2 z => ⟨n, Nat.lt_succ_self _, z⟩, fun x1 H6 hy1 => ?_⟩
                      obtain ⟨m6, sr6, rx6⟩ := hj1.2 x1 H6 hy1
                      have rw6 : RelS X.K κ ι5 H6 (wipeA ρ1 vs1) (L2.wipe σ2 vs1) := (rl4.monoW hm5.pre hm5.w).wipe vs1 |>.mono (List.prefix_refl _) m6
                      refine ⟨ι5, v1, wipeA ρ1 vs1, ρ2, rw6, rx6, eg1, fun σ3 rl6 hwp6 => ⟨?_, ?_⟩⟩
                      · have z := hwp6 vs1 hv1
                        rw [z]
                        exact wipe_twice
                      · have bnd : ∀ {α β γ : Type} (r : Res α) (f : α → Store → Res β) (f2 : β → Store → Res γ), (r.bind f).bind f2 = r.bind fun a μ => (f a μ).bind f2 := fun r f f2 => by cases r <;> rfl
                        rw [bnd] at h5
                        have M0 : HM ι H ι5 H6 := m1.trans (hm15.trans m6)
                        refine ⟨ι5, ρ2, μ5, sr6, rl6, PG.nox (PG.bindF M0 h5 fun b μ7 ι7 H7 p7 m7 sr7 h7 => ?_)⟩
                        have eD6 : H6 D = some (.lst av5) := m6.oth D _ hn5 eD5
                        have eD7 : H7 D = some (.lst av5) := m7.oth D _ hn5 eD6
                        have hn7 : D ∉ ι7 := fun z => by
                          have := m7.new D z hn5
                          rw [eD6] at this; cases this
                        have ra7 := ((ra5.mono (List.prefix_refl _) m6).mono p7 m7)
                        cases b with
                        | false =>
                          refine iteF ⟨ι7, acc5, av5, μ7, (hm5.tm m6).tm m7, (hm15.trans m6).trans m7, sr7, hn7, eD7, ra7, ?_⟩
                          simpa using h7
                        | true =>
                          rw [if_pos rfl, bnd] at h7
                          refine iteT ⟨ι7, ρ2, μ7, sr7, rl6.mono p7 m7, PG.nox (PG.bindF (M0.trans m7) h7 fun y μ8 ι8 H8 p8 m8 sr8 h8 yv ry => ?_)⟩
                          have eD8 : H8 D = some (.lst av5) := m8.oth D _ hn7 eD7
                          have hn8 : D ∉ ι8 := fun z => by
                            have := m8.new D z hn7
                            rw [eD7] at this; cases this
                          by_cases hz : acc5.length < 16777216
                          · rw [if_pos hz] at h8
                            have ra8 := ra7.mono p8 m8
                            have mu : Mut (H8 D) := by rw [eD8]; trivial
                            have hm18 := ((hm15.trans m6).trans m7).trans m8
                            have hm48 := ((hm5.tm m6).tm m7).tm m8
                            have w8 : HW H8 (L2.upd H8 D (.lst (av5 ++ [yv]))) := (HM.mine (HM.refl (ι := [D]) H8) mu (.inr (by simp))).w
                            refine ⟨av5, eD8, by rw [line16, ← ra8.length]; exact hz, ι8, acc5 ++ [y], av5 ++ [yv], μ8, ⟨hm48.pre, hm48.w.trans w8⟩, hm18.mine mu (.inl hD), sr8.other w8 hn8 (by rw [eD8]; trivial), hn8, upd_same, (ra8.append (.cons ry .nil)).monoW (List.prefix_refl _) w8, h8⟩
                          · rw [if_neg hz] at h8
                            exact False.elim h8
theorem DN.lc2 (cl : Cl X k) (is1 : List Nat) (hi : DI κ X tg iter it) (ok : BlkOk X.N X.env.scope scope own) (vs1 : List Nat) (hv : ∀ i ∈ is, i ∈ own.map (·.2)) (hv1 : ∀ i ∈ is1, i ∈ vs1) (hv2 : ∀ i ∈ vs1, i ∈ own.map (·.2))
    (hg : ∀ (s : Shared) (H : Hp) (C : Addr) (d : List (Str × Addr)) (fp : List Addr), Cl (X.blk s H scope (compEnvC scope d C X.env) fp) k → DG κ (X.blk s H scope (compEnvC scope d C X.env) fp) tg is g)
    (ht : ∀ (s : Shared) (H : Hp) (C : Addr) (d : List (Str × Addr)) (fp : List Addr), Cl (X.blk s H scope (compEnvC scope d C X.env) fp) k → PTs (X.blk s H scope (compEnvC scope d C X.env) fp) ifs (kT X.K κ W0 tt))
    (hi1 : ∀ (s : Shared) (H : Hp) (C : Addr) (d : List (Str × Addr)) (fp : List Addr), Cl (X.blk s H scope (compEnvC scope d C X.env) fp) k → DI κ (X.blk s H scope (compEnvC scope d C X.env) fp) tg1 iter1 it1)
    (hg1 : ∀ (s : Shared) (H : Hp) (C : Addr) (d : List (Str × Addr)) (fp : List Addr), Cl (X.blk s H scope (compEnvC scope d C X.env) fp) k → DG κ (X.blk s H scope (compEnvC scope d C X.env) fp) tg1 is1 g1)
    (ht1 : ∀ (s : Shared) (H : Hp) (C : Addr) (d : List (Str × Addr)) (fp : List Addr), Cl (X.blk s H scope (compEnvC scope d C X.env) fp) k → PTs (X.blk s H scope (compEnvC scope d C X.env) fp) ifs1 (kT X.K κ W0 tt1))
    (he : ∀ (s : Shared) (H : Hp) (C : Addr) (d : List (Str × Addr)) (fp : List Addr), Cl (X.blk s H scope (compEnvC scope d C X.env) fp) k → DE κ (X.blk s H scope (compEnvC scope d C X.env) fp) elt te)
    (hs : ∀ x, foldedSetIterable iter X.env x = pure x := by intro _; rfl) (hs1 : ∀ env x, foldedSetIterable iter1 env x = pure x := by intro _ _; rfl) :
    DN κ X (.ListComp elt [⟨tg, iter, ifs, 0⟩, ⟨tg1, iter1, ifs1, 0⟩] scope pos) (aLc2 it (own.map (·.2)) g tt it1 vs1 g1 tt1 te) := DN.mk cl fun W tk => by
  obtain ⟨wi, p0, i0⟩ := hi W tk
  exact ⟨_, pe_lc2 cl.calm cl.nd p0 ok hv2 (fun s H C d fp => (hg s H C d fp (cl.blk s H _ _ fp)).kan) (fun s H C d fp => ht s H C d fp (cl.blk s H _ _ fp)) (fun s H C d fp => (hi1 s H C d fp (cl.blk s H _ _ fp)).kan takes0)
    (fun s H C d fp => (hg1 s H C d fp (cl.blk s H _ _ fp)).kan) (fun s H C d fp => ht1 s H C d fp (cl.blk s H _ _ fp)) (fun s H C d fp => (he s H C d fp (cl.blk s H _ _ fp)).kan takes0) hs hs1, im_lc2 hv hv1 i0⟩
variable {y : Str} {py spos : Pos} {i : Nat}
theorem DS.setLc2D (cl : Cl X k) (is1 : List Nat) (hN : X.N[i]? = some y) (hy : X.env.scope.names.lookup y = some .local) (hsw : swapsWith (.ListComp elt [⟨tg, iter, ifs, 0⟩, ⟨tg1, iter1, ifs1, 0⟩] scope pos) (some (.Name y py)) spos.line X.env = pure true)
    (hi : DI κ X tg iter it) (ok : BlkOk X.N X.env.scope scope own) (vs1 : List Nat) (hv : ∀ i ∈ is, i ∈ own.map (·.2)) (hv1 : ∀ i ∈ is1, i ∈ vs1) (hv2 : ∀ i ∈ vs1, i ∈ own.map (·.2))
    (hg : ∀ (s : Shared) (H : Hp) (C : Addr) (d : List (Str × Addr)) (fp : List Addr), Cl (X.blk s H scope (compEnvC scope d C X.env) fp) k → DG κ (X.blk s H scope (compEnvC scope d C X.env) fp) tg is g)
    (ht : ∀ (s : Shared) (H : Hp) (C : Addr) (d : List (Str × Addr)) (fp : List Addr), Cl (X.blk s H scope (compEnvC scope d C X.env) fp) k → PTs (X.blk s H scope (compEnvC scope d C X.env) fp) ifs (kT X.K κ W0 tt))
    (hi1 : ∀ (s : Shared) (H : Hp) (C : Addr) (d : List (Str × Addr)) (fp : List Addr), Cl (X.blk s H scope (compEnvC scope d C X.env) fp) k → DI κ (X.blk s H scope (compEnvC scope d C X.env) fp) tg1 iter1 it1)
    (hg1 : ∀ (s : Shared) (H : Hp) (C : Addr) (d : List (Str × Addr)) (fp : List Addr), Cl (X.blk s H scope (compEnvC scope d C X.env) fp) k → DG κ (X.blk s H scope (compEnvC scope d C X.env) fp) tg1 is1 g1)
    (ht1 : ∀ (s : Shared) (H : Hp) (C : Addr) (d : List (Str × Addr)) (fp : List Addr), Cl (X.blk s H scope (compEnvC scope d C X.env) fp) k → PTs (X.blk s H scope (compEnvC scope d C X.env) fp) ifs1 (kT X.K κ W0 tt1))
    (he : ∀ (s : Shared) (H : Hp) (C : Addr) (d : List (Str × Addr)) (fp : List Addr), Cl (X.blk s H scope (compEnvC scope d C X.env) fp) k → DE κ (X.blk s H scope (compEnvC scope d C X.env) fp) elt te)
    (hs : ∀ x, foldedSetIterable iter X.env x = pure x := by intro _; rfl) (hs1 : ∀ env x, foldedSetIterable iter1 env x = pure x := by intro _ _; rfl) :
    DS κ X (.Assign [.Name y py] (.ListComp elt [⟨tg, iter, ifs, 0⟩, ⟨tg1, iter1, ifs1, 0⟩] scope pos) spos) (sSet i (eDat (aLc2 it (own.map (·.2)) g tt it1 vs1 g1 tt1 te))) := fun W tk => by
  obtain ⟨wi, p0, i0⟩ := hi W tk
  have rule : PS X (.Assign [.Name y py] (.ListComp elt [⟨tg, iter, ifs, 0⟩, ⟨tg1, iter1, ifs1, 0⟩] scope pos) spos) (tAsg (tLc2 wi (kG X.K κ is g) (kT X.K κ W0 tt) (kI X.K κ W0 it1) (kG X.K κ is1 g1) (kT X.K κ W0 tt1) (kE X.K κ W0 te) (own.map (·.2)) vs1) (gName i)) := ps_setLc2 (i := i) (pos := pos) cl.calm cl.nd hN hy hsw p0 ok hv2 (fun s H C d fp => (hg s H C d fp (cl.blk s H _ _ fp)).kan) (fun s H C d fp => ht s H C d fp (cl.blk s H _ _ fp)) (fun s H C d fp => (hi1 s H C d fp (cl.blk s H _ _ fp)).kan takes0)
    (fun s H C d fp => (hg1 s H C d fp (cl.blk s H _ _ fp)).kan) (fun s H C d fp => ht1 s H C d fp (cl.blk s H _ _ fp)) (fun s H C d fp => (he s H C d fp (cl.blk s H _ _ fp)).kan takes0) hs hs1
  refine ⟨_, ps_low cl (ps_fz rule), fun D σ H ι ρ μ sr rl h => ?_⟩
  refine im_lc2 hv hv1 i0 σ H _ ι ρ μ sr rl ?_
  unfold sSet eDat at h
  revert h
  cases aLc2 it (own.map (·.2)) g tt it1 vs1 g1 tt1 te ρ μ with
  | bad => exact id
  | ex c p μ1 => exact fun h ι' H' d q n s e => h ι' H' σ d q n s (rl.mono q n) e
  | ok vs μ1 =>
    intro h ι' H' q n s a xs rx e hn h0
    refine ⟨a, xs, e, fun o hlow => ?_⟩
    have mu : Mut (H' a) := by rw [e]; trivial
    have w : HW H' (L2.upd H' a (.frz o (.lst xs))) := (HM.mine (HM.refl (ι := [a]) H') mu (.inr (by simp))).w
    exact h ι' _ _ q (n.mine mu (.inl h0)) (s.other w hn (by rw [e]; trivial)) (((rl.mono q n).monoW (List.prefix_refl _) w).set (.lst ⟨o, upd_same, hlow a _ upd_same⟩ (rx.monoW (List.prefix_refl _) w)))
end
end Lr

set_option maxHeartbeats 2000000

namespace Lr
open PySem PySem.Spec L2
open PyProof.Rows hiding St
def leI (a b : Int) : Bool := decide (a ≤ b)
def sortI (ns : List Int) : List Int := ns.mergeSort leI
theorem leI_trans (a b c : Int) (h : leI a b = true) (g : leI b c = true) : leI a c = true := by simp only [leI, decide_eq_true_eq] at *; omega
theorem leI_total (a b : Int) : (leI a b || leI b a) = true := by simp only [leI, Bool.or_eq_true, decide_eq_true_eq]; omega
theorem sortI_perm (ns : List Int) : (sortI ns).Perm ns := List.mergeSort_perm ns leI
theorem sortI_pw (ns : List Int) : (sortI ns).Pairwise (· ≤ ·) := (List.pairwise_mergeSort leI_trans leI_total ns).imp fun h => by simpa only [leI, decide_eq_true_eq] using h
theorem sortI_eq {ys ks : List Int} (h : ys.Perm ks) (g : ys.Pairwise (· ≤ ·)) : ys = sortI ks :=
  List.Perm.eq_of_pairwise (le := (· ≤ ·)) (fun _ _ _ _ h g => by omega) g (sortI_pw ks) (h.trans (sortI_perm ks).symm)
def strsA : List AV → Option (List Str)
  | [] => some []
  | .str x :: r => (strsA r).map (x :: ·)
  | _ => none
theorem strsA_map : ∀ {xs : List AV} {ss : List Str}, strsA xs = some ss → xs = ss.map AV.str
  | [], ss, e => by cases e; rfl
  | x :: xs, ss, e => by
    cases x <;> simp only [strsA] at e <;> first | (cases e; done) | skip
    cases h : strsA xs with
    | none => rw [h] at e; cases e
    | some cs =>
      rw [h] at e
      cases e
      rw [List.map_cons, strsA_map h]
theorem strsA_of (ss : List Str) : strsA (ss.map AV.str) = some ss := by
  induction ss with
  | nil => rfl
  | cons x ss ih => show (strsA (ss.map AV.str)).map _ = _; rw [ih]; rfl
theorem ints_mapA : ∀ {xs : List AV} {ns : List Int}, intsOf xs = some ns → xs = ns.map AV.int
  | [], ns, e => by cases e; rfl
  | x :: xs, ns, e => by
    cases x <;> simp only [intsOf] at e <;> first | (cases e; done) | skip
    cases h : intsOf xs with
    | none => rw [h] at e; cases e
    | some cs =>
      rw [h] at e
      cases e
      rw [List.map_cons, ints_mapA h]

def gSortL : FnN := fun as μ => match as with
  | [x] => match lsOf μ x with
    | some xs => match intsOf xs with
      | some ns => .ok ((sortI ns).map AV.int) μ
      | none => match strsA xs with
        | some ss => if ss.length < 64 then .ok ((sortS ss).map AV.str) μ else .bad
        | none => .bad
    | none => .bad
  | _ => .bad
section
variable {κ : Kap} {X : Cx} {k : Nat}
theorem vals_ints2 {K : PySem.W.Frag} {ι : List Addr} {H : Hp} : ∀ {ns : List Int} {vs : List V}, RelL K κ ι H (ns.map AV.int) vs → vs = ns.map V.int
  | [], _, r => by cases r; rfl
  | n :: ns, _, r => by
    cases r with
    | cons h r => cases h; rw [vals_ints2 r]; rfl
theorem vals_strs2 {K : PySem.W.Frag} {ι : List Addr} {H : Hp} : ∀ {ns : List Str} {vs : List V}, RelL K κ ι H (ns.map AV.str) vs → vs = ns.map V.str
  | [], _, r => by cases r; rfl
  | n :: ns, _, r => by
    cases r with
    | cons h r => cases h; rw [vals_strs2 r]; rfl
theorem cn_sortL (cl : Cl X k) : CallN κ X (.builtin "sorted") gSortL := fun W tk pins s σ H xs us Q I r hh => by
  obtain ⟨σ0, ι₀, H₀, μ₀, ι, μ, as, sr₀, m, sr, rl, h⟩ := hh
  unfold gSortL at h
  split at h <;> first | exact False.elim h | skip
  split at h <;> first | exact False.elim h | skip
  rename_i x _ ys e1
  cases rl with
  | cons r1 r2 =>
    cases r2
    obtain ⟨a, vs, rfl, hq, rv⟩ := ls_rel sr r1 e1
    split at h
    · rename_i ns e2
      have e3 := ints_mapA e2
      subst e3
      have e4 := vals_ints2 rv
      subst e4
      refine cr_sortedI pins s σ H _ us Q I r ⟨a, ns, rfl, hq, fun ys q hp hs hn => ?_⟩
      rw [sortI_eq hp hs]
      exact okNew sr₀ sr m h (RelL.ints _) hn
    · split at h <;> first | exact False.elim h | skip
      rename_i ss e2
      split at h <;> first | exact False.elim h | skip
      rename_i hz
      have e3 := strsA_map e2
      subst e3
      have e4 := vals_strs2 rv
      subst e4
      refine cr_sortedS pins s σ H _ us Q I r ⟨a, ss, rfl, hq, hz, fun ys q hp hs hn => ?_⟩
      rw [sorted_eq hp hs]
      exact okNew sr₀ sr m h (strs_rel _) hn
end

abbrev set0 (w : World) : Obj := { cls := .type "set", dict := none, data := .set #[] 0 (.fresh 0 0 (!w.params.followText "set-order")) }
section
variable {P : Program} {w : World} {A : Around} {E : Value → Shared → Prop} {s : Shared}
abbrev addS (s : Shared) (o : Obj) : Shared := { s with heap := s.heap.push o }
theorem set_of_list {l : Addr} {its : Array Value} (ns : List Int) {Q : Value → Shared → Prop} (hA : A.handled = none) (hL : s.heap.IsList l its) (hI : IntsAre its.toList ns) (hN : ns.length + 1 < scanBound)
    (hQ : ∀ (h' : Heap) (tk c : Nat), SetR w h' s.heap.objs.size (fun j => decide (j ∈ ns)) c → c ≤ ns.length → (∀ b o, s.heap.get? b = some o → h'.get? b = some o) → Q (.ref s.heap.objs.size) { s with heap := h', toks := tk }) :
    wpAny (model P w) A (call (.type "set") [.ref l]) Q E s := by
  have size_its : its.size = ns.length := by rw [← Array.length_toList]; exact hI.length
  obtain ⟨cM, restM, eMro⟩ := F.called_set.mro
  have eMade := F.called_set.made
  have eSub := F.called_set.sub
  have eNT := F.called_set.notType
  have eCC := F.called_set.canCreate
  have eTC := F.typeCall_set_1 (.ref l)
  refine wpAny_call (codeAny_of_tree (show wpAny _ _ (callAny (.type "set") _) _ _ _ from wpAny_pure ⟨Code.quiet_builtin _ (by decide +kernel), codeAny_builtin F.entry_type_call ?_⟩))
  rw [Around.under_plain (weight_type_call_type "set" [.ref l] []) rfl]
  repeat (any_goals (first | assumption | wp_step))
  refine codeAny_mono (code_set_led1 (.ref l) (E := E) (Q₁ := fun ob sh => ob = .ref s.heap.objs.size ∧ sh = addS s (set0 w)) ⟨rfl, rfl⟩) fun rr sh hr => ?_
  cases rr with
  | error _ => exact hr
  | ok fl =>
    cases fl with
    | next => exact hr.elim
    | brk => exact hr.elim
    | cont => exact hr.elim
    | ret ob =>
      obtain ⟨rfl, rfl⟩ := hr
      have gS : (addS s (set0 w)).heap.get? s.heap.objs.size = some (set0 w) := Heap.get?_push_size _ rfl
      have tS : (addS s (set0 w)).TypeIs (.ref s.heap.objs.size) "set" := ⟨_, gS, rfl⟩
      have eIL := F.called_set.init.lookup
      have eIB := F.called_set.init.bind (.ref s.heap.objs.size)
      repeat (any_goals (first | assumption | wp_step))
      refine codeAny_mono (codeAny_call_builtin (R := wants (fun q sh => q = .none ∧ ∃ h' tk c, sh = { s with heap := h', toks := tk } ∧ SetR w h' s.heap.objs.size (fun j => decide (j ∈ ns)) c ∧ c ≤ ns.length ∧ ∀ b o, s.heap.get? b = some o → h'.get? b = some o) E)
        F.called_set.init.plain F.entry_set_init (check_set_init_1 tS ?_)) fun r2 sh hr2 => ?_
      · obtain ⟨⟨_, dd, _, sl⟩, gL, cL, nL, dL⟩ := hL
        simp only at cL dL
        subst cL dL
        have gL2 : (addS s (set0 w)).heap.get? l = some { cls := .type "list", dict := dd, data := .seq its nL, slots := sl } := Heap.get?_push_of_some _ gL
        have eLS := F.sub_list_set
        have eLF := F.sub_list_frozenset
        have eND : (Value.type "list" == Value.type "dict") = false := by decide
        have hL2 : (addS s (set0 w)).heap.IsList l its := ⟨_, gL2, rfl, nL, rfl⟩
        unfold Builtin.«set.__init__» noKeywords Builtin.Frozenset.updateFrom
        generalize eP : pyIter = P'
        wp_walk
        subst eP
        refine wpAny_pyIter_list hL2 (wpAny_bind (wpAny_runValue ?_))
        have ltL : l < s.heap.objs.size := Heap.lt_size gL
        have szS : (addS s (set0 w)).heap.objs.size = s.heap.objs.size + 1 := Heap.size_push ..
        have neL : l ≠ (addS s (set0 w)).heap.objs.size := by rw [szS]; exact Nat.ne_of_lt (Nat.lt_succ_of_lt ltL)
        have outS : s.heap.objs.size ∉ [(addS s (set0 w)).heap.objs.size, l] := by
          rw [szS]
          simp only [List.mem_cons, List.not_mem_nil, or_false, not_or]
          exact ⟨Nat.ne_of_lt (Nat.lt_succ_self _), Nat.ne_of_gt ltL⟩
        have items : ∀ (i : Nat) (v : Value), its[i]? = some v → ∃ k t, ns[i]? = some k ∧ v = .int k t := fun i v hv => by
          have lt : i < ns.length := by rw [← size_its]; exact (Array.getElem?_eq_some_iff.mp hv).1
          obtain ⟨t, e⟩ := PyProof.Rows.IntsAre.int_at hI i v (by rw [Array.getElem?_toList]; exact hv)
          exact ⟨ns[i], t, List.getElem?_eq_getElem lt, by rw [e, List.getD_eq_getElem?_getD, List.getElem?_eq_getElem lt] <;> rfl⟩
        refine set_update_ints ((Walks.list (by simp [hA]) _ l neL its).toS) s.heap.objs.size outS ns size_its hN items (its.size - 0) 0 _ (by omega) (Nat.zero_le _) ⟨⟨_, Heap.get?_push_size _ rfl, rfl, rfl⟩, hL2.push _⟩ ?atStart ?atEnd
        case atStart => exact ⟨0, Nat.le_refl 0, setR_new_at (Heap.get?_push_of_some _ gS)⟩
        case atEnd =>
          rintro ⟨h', g', d', tk', os'⟩ c mv le sr
          have e1 : g' = s.gens := mv.gens
          have e2 : d' = s.drawn := mv.drawn
          have e3 : os' = s.os := mv.os
          subst e1 e2 e3
          refine wpAny_pure (show wpAny _ _ (ret Value.none) _ _ _ from wpAny_pure ⟨rfl, h', tk', c, rfl, sr, by rw [← size_its]; exact le, fun b o e => ?_⟩)
          have ltb : b < s.heap.objs.size := Heap.lt_size e
          refine mv.heap b o ?_ (Heap.get?_push_of_some _ (Heap.get?_push_of_some _ e))
          rw [szS]
          simp only [List.mem_cons, List.not_mem_nil, or_false, not_or]
          exact ⟨Nat.ne_of_lt ltb, Nat.ne_of_lt (Nat.lt_succ_of_lt ltb)⟩
      · cases r2 with
        | error _ => exact hr2
        | ok fl =>
          cases fl with
          | next => exact hr2.elim
          | brk => exact hr2.elim
          | cont => exact hr2.elim
          | ret q =>
            obtain ⟨rfl, h', tk, c, rfl, sr, le, keep⟩ := hr2
            repeat (any_goals (first | assumption | wp_step))
            exact hQ _ _ _ sr le keep
end

def dedI : List Int → List Int
  | [] => []
  | x :: r => if x ∈ dedI r then dedI r else x :: dedI r
theorem mem_dedI {k : Int} : ∀ {ns : List Int}, k ∈ dedI ns ↔ k ∈ ns
  | [] => Iff.rfl
  | x :: r => by
    unfold dedI
    split
    · rename_i h
      rw [mem_dedI, List.mem_cons]
      exact ⟨.inr, fun z => z.elim (fun e => by rw [e]; exact mem_dedI.mp h) id⟩
    · rw [List.mem_cons, List.mem_cons, mem_dedI]
theorem nodup_dedI : ∀ ns : List Int, (dedI ns).Nodup
  | [] => .nil
  | x :: r => by
    unfold dedI
    split
    · exact nodup_dedI r
    · rename_i h
      exact List.nodup_cons.mpr ⟨h, nodup_dedI r⟩
def sortD (ns : List Int) : List Int := sortI (dedI ns)
theorem mem_sortD {ns : List Int} {k : Int} : k ∈ sortD ns ↔ k ∈ ns := by
  unfold sortD
  rw [(sortI_perm _).mem_iff, mem_dedI]
theorem pw_lt {l : List Int} (h : l.Pairwise (· ≤ ·)) (d : l.Nodup) : l.Pairwise (· < ·) := (h.and d).imp fun ⟨a, b⟩ => by omega
theorem sortD_pw (ns : List Int) : (sortD ns).Pairwise (· < ·) := pw_lt (sortI_pw _) ((sortI_perm _).nodup_iff.mpr (nodup_dedI ns))
theorem lt_ext {a b : List Int} (ha : a.Pairwise (· < ·)) (hb : b.Pairwise (· < ·)) (h : ∀ k, k ∈ a ↔ k ∈ b) : a = b := by
  have na : a.Nodup := ha.imp fun h => by omega
  have nb : b.Nodup := hb.imp fun h => by omega
  have p : a.Perm b := (List.perm_ext_iff_of_nodup na nb).mpr h
  exact List.Perm.eq_of_pairwise (le := (· ≤ ·)) (fun _ _ _ _ h g => by omega) (ha.imp fun h => by omega) (hb.imp fun h => by omega) p
theorem sortD_eq {ns ys : List Int} (h : ys.Pairwise (· < ·)) (m : ∀ k, k ∈ ys ↔ k ∈ ns) : ys = sortD ns := lt_ext h (sortD_pw ns) fun k => by rw [m, mem_sortD]
section
variable {X : Cx} {κ : Kap}
def rSetL (K : PySem.W.Frag) (w : World) : List V → Hp → VK → Prop := fun xs H Q => ∃ (l : Addr) (ns : List Int), xs = [.ref l] ∧ SqL K H l (ns.map V.int) ∧ ns.length + 1 < scanBound ∧ ∀ a c, H a = none → c ≤ ns.length → (∀ zs : List Int, zs.Pairwise (· < ·) → (∀ k, k ∈ zs ↔ k ∈ ns) → c = zs.length) → Q (.ref a) (L2.upd H a (SetO w a (fun j => decide (j ∈ ns)) c))
theorem setR_count {w : World} {h : Heap} {a : Addr} {ns : List Int} {c : Nat} (R : SetR w h a (fun j => decide (j ∈ ns)) c) {zs : List Int} (hz : zs.Pairwise (· < ·)) (m : ∀ k, k ∈ zs ↔ k ∈ ns) : c = zs.length := by
  obtain ⟨o, es, ep, t, h1, h2, h3, h4, h5, h6, h7, h8, h9, h10, h11⟩ := R
  have nz : zs.Nodup := hz.imp fun h => by omega
  have p : (es.toList.map L2.keyOf).Perm zs := (List.perm_ext_iff_of_nodup h5 nz).mpr fun k => by rw [← h6, decide_eq_true_iff, m]
  have := p.length_eq
  rw [List.length_map, Array.length_toList] at this
  omega
theorem cr_setL (hc : X.calm = true) : CallR X (.type "set") (rSetL X.K X.w) := by
  intro pins s σ H xs us Q I r h
  obtain ⟨l, ns, rfl, hq, hn, q⟩ := h
  obtain ⟨its, rv, hl, hz⟩ := I.list hq
  rw [Vals.ref1 r]
  refine set_of_list ns (I.ok.hd hc) hl.isList (by simpa using rv.ints) hn fun h' tk c R le keep => ?_
  refine ⟨.ref _, L2.upd H s.heap.objs.size (SetO X.w s.heap.objs.size (fun j => decide (j ∈ ns)) c), I.laid (t' := tk) keep (Nat.le_refl _) (setO_new R), rfl, q _ c (I.hok.fresh (Nat.le_refl _)) le fun zs h1 h2 => setR_count R h1 h2⟩
def aSortSet (re : AE) : AA := fun ρ μ => (re ρ μ).bind fun v μ1 => match lsOf μ1 v with
  | some xs => match intsOf xs with
    | some ns => if ns.length ≤ 4000 ∧ (sortD ns).length < 64 then .ok ((sortD ns).map AV.int) μ1 else .bad
    | none => .bad
  | none => .bad
theorem DN.sortSet {k : Nat} {e : Expr} {re : AE} {p p2 pos q : Pos} (cl : Cl X k) (hg : Gl X "sorted") (hm : X.mg "sorted" = none) (hg2 : Gl X "set") (hm2 : X.mg "set" = none) (he : DE κ X e re)
    (h1 : starEach [.Call (.Name "set" p2) [e] [] q] X.env = (false, eval (.Call (.Name "set" p2) [e] [] q) X.env) :: starEach [] X.env := by rfl) (h2 : starEach [e] X.env = (false, eval e X.env) :: starEach [] X.env := by rfl) :
    DN κ X (.Call (.Name "sorted" p) [.Call (.Name "set" p2) [e] [] q] [] pos) (aSortSet re) := DN.mk cl fun W tk => by
  obtain ⟨t, pt, i⟩ := he W tk
  refine ⟨_, pe_callB (cr_sortedSet cl.calm) hg hm (by decide +kernel) (pa_cons (pe_callTy (cr_setL cl.calm) hg2 hm2 (by decide +kernel) (pa_cons pt pa_nil h2) (by decide) (by decide) h2) pa_nil h1) (by decide) (by decide) h1, fun σ H Q ι ρ μ sr rl h => ?_⟩
  refine i σ H _ ι ρ μ sr rl (PG.bind0 h fun v μ1 ι1 H1 p1 m1 sr1 hh x rx => ?_)
  cases e1 : lsOf μ1 v with
  | none => rw [e1] at hh; exact False.elim hh
  | some xs =>
    rw [e1] at hh
    dsimp only at hh
    cases e2 : intsOf xs with
    | none => rw [e2] at hh; exact False.elim hh
    | some ns =>
      rw [e2] at hh
      dsimp only at hh
      split at hh
      · rename_i hz
        obtain ⟨a, vs, rfl, hq, rv⟩ := ls_rel sr1 rx e1
        have e3 := ints_mapA e2
        subst e3
        have e4 := vals_ints2 rv
        subst e4
        refine ⟨a, ns, rfl, hq, by unfold scanBound; omega, fun b c hb le hc => ?_⟩
        have ec := hc (sortD ns) (sortD_pw ns) fun k => mem_sortD
        refine ⟨b, _, c, rfl, upd_same, by omega, fun ys q' h3 h4 h5 h6 => ?_⟩
        rw [sortD_eq (ns := ns) h3 fun k => by rw [h4]; simp]
        have m2 : HM ι1 H1 ι1 (L2.upd H1 b (SetO X.w b (fun j => decide (j ∈ ns)) c)) := HM.fresh hb
        exact okNew sr (sr1.new hb) (m1.trans m2) hh (RelL.ints _) h6
      · exact False.elim hh
end
end Lr


namespace Lr
open PySem PySem.Spec L2


def wp {α : Type} (r : Res α) (Q : α → Store → Prop) : Prop := match r with
  | .ok a μ => Q a μ
  | _ => False

def wpX {α : Type} (r : Res α) (Q : α → Store → Prop) (E : Nat → Option AV → Store → Prop) : Prop := match r with
  | .ok a μ => Q a μ
  | .ex c p μ => E c p μ
  | .bad => False
structure Kt where
  nx : Loc → Store → Prop := fun _ _ => False
  rt : AV → Store → Prop := fun _ _ => False
  bk : Loc → Store → Prop := fun _ _ => False
  ct : Loc → Store → Prop := fun _ _ => False
def wo (o : Out) (D : Kt) : Prop := match o with
  | .nx ρ μ => D.nx ρ μ
  | .rt v μ => D.rt v μ
  | .bk ρ μ => D.bk ρ μ
  | .ct ρ μ => D.ct ρ μ
  | _ => False
section
variable {α β : Type} {Q : α → Store → Prop} {ρ : Loc} {μ : Store} {D : Kt}
@[simp] theorem wp_ok {a : α} : wp (.ok a μ) Q = Q a μ := rfl
@[simp] theorem wp_bad : wp (.bad : Res α) Q = False := rfl
@[simp] theorem wp_bind {r : Res β} {f : β → Store → Res α} : wp (r.bind f) Q = wp r fun b μ1 => wp (f b μ1) Q := by cases r <;> rfl
theorem wp.elim {r : Res α} (h : wp r Q) : ∃ a μ, r = .ok a μ ∧ Q a μ := by
  cases r with
  | ok a μ => exact ⟨a, μ, rfl, h⟩
  | ex c p μ => exact False.elim h
  | bad => exact False.elim h
theorem wp.mono {Q' : α → Store → Prop} {r : Res α} (h : wp r Q) (k : ∀ a μ, Q a μ → Q' a μ) : wp r Q' := by
  cases r with
  | ok a μ => exact k a μ h
  | ex c p μ => exact False.elim h
  | bad => exact False.elim h
@[simp] theorem wp_ite {c : Prop} [Decidable c] {r s : Res α} : wp (if c then r else s) Q = if c then wp r Q else wp s Q := by split <;> rfl
@[simp] theorem wo_nx : wo (.nx ρ μ) D = D.nx ρ μ := rfl
@[simp] theorem wo_rt {v : AV} : wo (.rt v μ) D = D.rt v μ := rfl
@[simp] theorem wo_bk : wo (.bk ρ μ) D = D.bk ρ μ := rfl
@[simp] theorem wo_ct : wo (.ct ρ μ) D = D.ct ρ μ := rfl
@[simp] theorem wo_bad : wo .bad D = False := rfl
@[simp] theorem wo_out {r : Res α} {f : α → Store → Out} : wo (r.out ρ f) D = wp r fun a μ1 => wo (f a μ1) D := by cases r <;> rfl
@[simp] theorem wo_ite {c : Prop} [Decidable c] {r s : Out} : wo (if c then r else s) D = if c then wo r D else wo s D := by split <;> rfl
@[simp] theorem wo_seq {a b : AS} : wo (sSeq a b ρ μ) D = wo (a ρ μ) { D with nx := fun ρ1 μ1 => wo (b ρ1 μ1) D } := by
  unfold sSeq
  cases a ρ μ <;> rfl
@[simp] theorem wo_nil : wo (sNil ρ μ) D = D.nx ρ μ := rfl
@[simp] theorem wo_expr {r : AE} : wo (sExpr r ρ μ) D = wp (r ρ μ) fun _ μ1 => D.nx ρ μ1 := by unfold sExpr; simp
@[simp] theorem wo_ret {r : AE} : wo (sRet r ρ μ) D = wp (r ρ μ) fun v μ1 => D.rt v μ1 := by unfold sRet; simp
@[simp] theorem wo_retN : wo (sRetN ρ μ) D = D.rt .non μ := rfl
@[simp] theorem wo_brk : wo (sBreak ρ μ) D = D.bk ρ μ := rfl
@[simp] theorem wo_cont : wo (sCont ρ μ) D = D.ct ρ μ := rfl
@[simp] theorem wo_if {t : AT} {a b : AS} : wo (sIf t a b ρ μ) D = wp (t ρ μ) fun k μ1 => if k = true then wo (a ρ μ1) D else wo (b ρ μ1) D := by unfold sIf; simp
@[simp] theorem wo_set {i : Nat} {r : AE} : wo (sSet i r ρ μ) D = wp (r ρ μ) fun v μ1 => D.nx (ρ.set i (some v)) μ1 := by unfold sSet; simp
theorem wo.mono {D' : Kt} {o : Out} (h : wo o D) (h1 : ∀ ρ μ, D.nx ρ μ → D'.nx ρ μ) (h2 : ∀ v μ, D.rt v μ → D'.rt v μ) (h3 : ∀ ρ μ, D.bk ρ μ → D'.bk ρ μ) (h4 : ∀ ρ μ, D.ct ρ μ → D'.ct ρ μ) : wo o D' := by
  cases o with
  | nx ρ μ => exact h1 _ _ h
  | rt v μ => exact h2 _ _ h
  | bk ρ μ => exact h3 _ _ h
  | ct ρ μ => exact h4 _ _ h
  | _ => exact False.elim h

@[simp] theorem eVar_s {i : Nat} : eVar i ρ μ = (match ρ[i]? with | some (some v) => .ok v μ | _ => .bad) := rfl
@[simp] theorem eC_s {v : AV} : eC v ρ μ = .ok v μ := rfl
@[simp] theorem aNil_s : aNil ρ μ = .ok [] μ := rfl
@[simp] theorem aCons_s {a : AE} {r : AA} : aCons a r ρ μ = (a ρ μ).bind fun x μ1 => (r ρ μ1).bind fun xs μ2 => .ok (x :: xs) μ2 := rfl
@[simp] theorem eTup_s {r : AA} : eTup r ρ μ = (r ρ μ).bind fun xs μ1 => if xs.length ≤ 16777216 then .ok (.tup xs) μ1 else .bad := rfl
@[simp] theorem aLst_s {r : AA} : aLst r ρ μ = (r ρ μ).bind fun xs μ1 => if xs.length ≤ 16777216 then .ok xs μ1 else .bad := rfl
@[simp] theorem eNew_s {r : AA} : eNew r ρ μ = (r ρ μ).bind fun xs μ1 => .ok (.loc μ1.length) (μ1 ++ [.lst xs]) := rfl
@[simp] theorem eDat_s {r : AA} : eDat r ρ μ = (r ρ μ).bind fun xs μ1 => .ok (.lst xs) μ1 := rfl
@[simp] theorem eOp_s {g : G2} {a b : AE} : eOp g a b ρ μ = (a ρ μ).bind fun x μ1 => (b ρ μ1).bind fun y μ2 => g x y μ2 := rfl
@[simp] theorem eCall_s {f : Fn} {a : AA} : eCall f a ρ μ = (a ρ μ).bind fun as μ1 => f as μ1 := rfl
@[simp] theorem eCB_s {f : Fn} {a : AA} : eCB f a ρ μ = (a ρ μ).bind fun as μ1 => f as μ1 := rfl
@[simp] theorem aCB_s {f : FnN} {a : AA} : aCB f a ρ μ = (a ρ μ).bind fun as μ1 => f as μ1 := rfl
@[simp] theorem eIf_s {t : AT} {a b : AE} : eIf t a b ρ μ = (t ρ μ).bind fun k μ1 => if k then a ρ μ1 else b ρ μ1 := rfl
@[simp] theorem tB1_s {r : AE} : tB1 r ρ μ = (r ρ μ).bind fun x μ1 => match x with | .bl k => .ok k μ1 | _ => .bad := rfl
@[simp] theorem tNt_s {r : AT} : tNt r ρ μ = (r ρ μ).bind fun b μ1 => .ok (!b) μ1 := rfl
@[simp] theorem tAn_s {t u : AT} : tAn t u ρ μ = (t ρ μ).bind fun b μ1 => if b then u ρ μ1 else .ok false μ1 := rfl
@[simp] theorem tOrr_s {t u : AT} : tOrr t u ρ μ = (t ρ μ).bind fun b μ1 => if b then .ok true μ1 else u ρ μ1 := rfl
@[simp] theorem tTr_s {r : AE} : tTr r ρ μ = (r ρ μ).bind fun x μ1 => match truA μ1 x with | some k => .ok k μ1 | none => .bad := rfl
@[simp] theorem gAdd_i {i j : Int} : gAdd (.int i) (.int j) μ = .ok (.int (i + j)) μ := rfl
@[simp] theorem gAdd_t {xs ys : List AV} : gAdd (.tup xs) (.tup ys) μ = if xs.length + ys.length ≤ 16777216 then .ok (.tup (xs ++ ys)) μ else .bad := rfl
@[simp] theorem gSub_i {i j : Int} : gSub (.int i) (.int j) μ = .ok (.int (i - j)) μ := rfl
@[simp] theorem gMul_i {i j : Int} : gMul (.int i) (.int j) μ = if mulOk i j then .ok (.int (i * j)) μ else .bad := rfl
theorem p64 : (2 : Nat) ^ 64 ≤ 2 ^ 4000 := Nat.pow_le_pow_right (by decide) (by decide)
theorem gDiv_i {i j : Int} (h : 0 < j) (h2 : j < 18446744073709551616) : gDiv (.int i) (.int j) μ = .ok (.int (i / j)) μ := by
  have h3 : j.natAbs < 2 ^ 64 := by omega
  have e : (decide (0 < j) && decide (j.natAbs < 2 ^ 4000)) = true := by rw [decide_eq_true h, decide_eq_true (Nat.lt_of_lt_of_le h3 p64)]; rfl
  exact if_pos e
theorem mulOk_l {i j : Int} (h : i.natAbs < 18446744073709551616) : mulOk i j = true := by
  have h3 : i.natAbs < 2 ^ 64 := h
  unfold mulOk
  rw [decide_eq_true h3]
  rfl
theorem mulOk_r {i j : Int} (h : j.natAbs < 18446744073709551616) : mulOk i j = true := by
  have h3 : j.natAbs < 2 ^ 64 := h
  unfold mulOk
  rw [decide_eq_true h3, Bool.or_true]
  rfl
@[simp] theorem gMod_i {i j : Int} : gMod (.int i) (.int j) μ = if decide (0 < j) then .ok (.int (i % j)) μ else .bad := rfl
@[simp] theorem gPow_i {i j : Int} : gPow (.int i) (.int j) μ = if decide (0 ≤ j) && decide (j ≤ 1000) && decide (i.natAbs < 2 ^ 64) then .ok (.int (i ^ j.toNat)) μ else .bad := rfl
@[simp] theorem gLt_i {i j : Int} : gLt (.int i) (.int j) μ = .ok (.bl (decide (i < j))) μ := rfl
@[simp] theorem gLe_i {i j : Int} : gLe (.int i) (.int j) μ = .ok (.bl (decide (i ≤ j))) μ := rfl
@[simp] theorem gGt_i {i j : Int} : gGt (.int i) (.int j) μ = .ok (.bl (decide (j < i))) μ := rfl
@[simp] theorem gGe_i {i j : Int} : gGe (.int i) (.int j) μ = .ok (.bl (decide (j ≤ i))) μ := rfl
@[simp] theorem eNeg_s {a : AE} : eNeg a ρ μ = (a ρ μ).bind fun x μ1 => match x with | .int i => .ok (.int (-i)) μ1 | .bl b => .ok (.int (-(if b then 1 else 0))) μ1 | _ => .bad := rfl
@[simp] theorem gLen_t {xs : List AV} : gLen [.tup xs] μ = .ok (.int xs.length) μ := rfl
@[simp] theorem gLen_l {xs : List AV} : gLen [.lst xs] μ = .ok (.int xs.length) μ := rfl
@[simp] theorem gLen_c {ns : List Int} : gLen [.scr ns] μ = .ok (.int ns.length) μ := rfl
@[simp] theorem gAbs_i {i : Int} : gAbs [.int i] μ = .ok (.int (if i < 0 then -i else i)) μ := rfl
@[simp] theorem gMax_i {i j : Int} : gMax [.int i, .int j] μ = .ok (.int (if j > i then j else i)) μ := rfl
@[simp] theorem gMin_i {i j : Int} : gMin [.int i, .int j] μ = .ok (.int (if j < i then j else i)) μ := rfl
@[simp] theorem gInt_i {i : Int} : gInt [.int i] μ = .ok (.int i) μ := rfl
@[simp] theorem gInt_b {b : Bool} : gInt [.bl b] μ = .ok (.int (if b then 1 else 0)) μ := rfl
@[simp] theorem gTuple_t {xs : List AV} : gTuple [.tup xs] μ = .ok (.tup xs) μ := rfl
@[simp] theorem gTuple_l {xs : List AV} : gTuple [.lst xs] μ = .ok (.tup xs) μ := rfl
@[simp] theorem gList_t {xs : List AV} : gList [.tup xs] μ = .ok xs μ := rfl
@[simp] theorem gList_l {xs : List AV} : gList [.lst xs] μ = .ok xs μ := rfl
@[simp] theorem sSub_s {o i r : AE} : sSub o i r ρ μ = (r ρ μ).out ρ fun v μ1 => (o ρ μ1).out ρ fun l μ2 => (i ρ μ2).out ρ fun j μ3 => match stL μ3 l, j with
  | some (n, xs), .int k => (match ixN xs.length k with
    | some m => .nx ρ (μ3.set n (.lst (xs.set m v)))
    | none => .bad)
  | _, _ => .bad := rfl
theorem stL_o {n : Nat} {xs : List AV} (e : μ[n]? = some (.lst xs)) : stL μ (.loc n) = some (n, xs) := by simp [stL, e]
theorem gIx_t {xs : List AV} {i : Int} {v : AV} (h : atI xs i = some v) : gIx (.tup xs) (.int i) μ = .ok v μ := by simp [gIx, seqOf, h]
theorem gIx_l {xs : List AV} {i : Int} {v : AV} (h : atI xs i = some v) : gIx (.lst xs) (.int i) μ = .ok v μ := by simp [gIx, seqOf, h]
theorem gIx_o {n : Nat} {xs : List AV} {i : Int} {v : AV} (e : μ[n]? = some (.lst xs)) (h : atI xs i = some v) : gIx (.loc n) (.int i) μ = .ok v μ := by simp [gIx, seqOf, lsOf, e, h]
theorem gIx_c {ns : List Int} {i j : Int} (h : atI ns i = some j) : gIx (.scr ns) (.int i) μ = .ok (.int j) μ := by simp [gIx, h]
theorem atI_nn {γ : Type} {xs : List γ} {i : Int} (h0 : 0 ≤ i) (h1 : i < xs.length) : atI xs i = xs[i.toNat]? := by
  unfold atI ixN
  simp [h0, h1]
theorem atI_get {γ : Type} {xs : List γ} {i : Int} (h0 : 0 ≤ i) (h1 : i < xs.length) : ∃ v, atI xs i = some v ∧ v ∈ xs := by
  rw [atI_nn h0 h1]
  have : i.toNat < xs.length := by omega
  exact ⟨xs[i.toNat], by rw [List.getElem?_eq_getElem this], List.getElem_mem _⟩
end


mutual

def pure? : AV → Bool
  | .tup xs => pureL xs
  | .lst xs => pureL xs
  | .dct kvs => pureD kvs
  | .loc _ => false
  | _ => true
def pureL : List AV → Bool
  | [] => true
  | x :: xs => pure? x && pureL xs
def pureD : List (AV × AV) → Bool
  | [] => true
  | (x, y) :: xs => pure? x && pure? y && pureD xs
end
mutual
theorem bel_pure (n : Nat) : ∀ v : AV, pure? v = true → bel n v = true
  | .tup xs, h => by simp only [pure?] at h; simp only [bel]; exact belL_pure n xs h
  | .lst xs, h => by simp only [pure?] at h; simp only [bel]; exact belL_pure n xs h
  | .dct kvs, h => by simp only [pure?] at h; simp only [bel]; exact belD_pure n kvs h
  | .loc _, h => by simp [pure?] at h
  | .non, _ => rfl
  | .bl _, _ => rfl
  | .int _, _ => rfl
  | .str _, _ => rfl
  | .obj _, _ => rfl
  | .scr _, _ => rfl
  | .ty _, _ => rfl
theorem belL_pure (n : Nat) : ∀ v : List AV, pureL v = true → belL n v = true
  | [], _ => rfl
  | x :: xs, h => by
    simp only [pureL, Bool.and_eq_true] at h
    simp only [belL, Bool.and_eq_true]
    exact ⟨bel_pure n x h.1, belL_pure n xs h.2⟩
theorem belD_pure (n : Nat) : ∀ v : List (AV × AV), pureD v = true → belD n v = true
  | [], _ => rfl
  | (x, y) :: xs, h => by
    simp only [pureD, Bool.and_eq_true] at h
    simp only [belD, Bool.and_eq_true]
    exact ⟨⟨bel_pure n x h.1.1, bel_pure n y h.1.2⟩, belD_pure n xs h.2⟩
end
theorem pureL_all : ∀ xs : List AV, pureL xs = xs.all pure?
  | [] => rfl
  | x :: xs => by rw [List.all_cons, ← pureL_all xs]; rfl

theorem fn_wp {n m : Nat} {b : AS} {as : List AV} {μ : Store} {Q : AV → Store → Prop} (hl : as.length = m)
    (h : wo (b (startA n as) μ) { nx := fun _ σ => gcOk μ σ ∧ Q .non (σ.take μ.length), rt := fun v σ => pure? v = true ∧ gcOk μ σ ∧ Q v (σ.take μ.length) }) : wp (fnR n m b as μ) Q := by
  unfold fnR
  rw [if_pos hl]
  unfold bodyR
  revert h
  cases b (startA n as) μ with
  | nx ρ σ =>
    intro h
    show wp (gc μ (.ok .non σ)) Q
    unfold gc
    simp only
    rw [if_pos ⟨rfl, h.1⟩]
    exact h.2
  | rt v σ =>
    intro h
    show wp (gc μ (.ok v σ)) Q
    unfold gc
    simp only
    rw [if_pos ⟨bel_pure _ v h.1, h.2.1⟩]
    exact h.2.2
  | _ => exact False.elim

theorem fn_wpN {n m : Nat} {b : AS} {as : List AV} {μ : Store} {Q : AV → Store → Prop} (hl : as.length = m)
    (h : wo (b (startA n as) μ) { rt := fun v σ => bel μ.length v = false ∧ Q v σ }) : wp (fnR n m b as μ) Q := by
  unfold fnR
  rw [if_pos hl]
  unfold bodyR
  revert h
  cases b (startA n as) μ with
  | rt v σ =>
    intro h
    show wp (gc μ (.ok v σ)) Q
    unfold gc
    simp only
    rw [if_neg (fun z => by rw [h.1] at z; exact absurd z.1 Bool.false_ne_true)]
    exact h.2
  | _ => exact False.elim


theorem wo_for {it : AI} {g : AG} {b : AS} {ρ : Loc} {μ : Store} {D : Kt} : wo (sFor it g b ρ μ) D = wp (it ρ μ) fun src μ1 => wo (forF g b src FUEL 0 ρ μ1) D := by unfold sFor; simp

theorem wo_dat {g : AG} {b : AS} {xs : List AV} {D : Kt} (W : Nat → Loc → Store → Prop) (hend : ∀ ρ μ, W xs.length ρ μ → D.nx ρ μ)
    (step : ∀ i (v : AV) ρ μ, xs[i]? = some v → W i ρ μ → ∃ ρ1, g v ρ = some ρ1 ∧ wo (b ρ1 μ) { D with nx := W (i + 1), ct := W (i + 1), bk := D.nx }) :
    ∀ (m i : Nat) ρ μ, xs.length - i < m → i ≤ xs.length → W i ρ μ → wo (forF g b (.dat xs) m i ρ μ) D
  | 0, i, ρ, μ, hm, _, _ => absurd hm (Nat.not_lt_zero _)
  | m + 1, i, ρ, μ, hm, hi, h => by
    unfold forF
    simp only [Src.at]
    cases e : xs[i]? with
    | none =>
      have : xs.length ≤ i := List.getElem?_eq_none_iff.mp e
      have hi' : i = xs.length := by omega
      subst hi'
      exact hend ρ μ h
    | some v =>
      have hlt : i < xs.length := (List.getElem?_eq_some_iff.mp e).1
      obtain ⟨ρ1, eg, hb⟩ := step i v ρ μ e h
      simp only [eg]
      revert hb
      cases b ρ1 μ with
      | nx ρ2 μ2 => exact fun hb => wo_dat W hend step m (i + 1) ρ2 μ2 (by omega) (by omega) hb
      | ct ρ2 μ2 => exact fun hb => wo_dat W hend step m (i + 1) ρ2 μ2 (by omega) (by omega) hb
      | bk ρ2 μ2 => exact id
      | rt v μ2 => exact id
      | ex c p ρ2 μ2 => exact id
      | bad => exact id

theorem wo_live {g : AG} {b : AS} {n : Nat} {xs : List AV} {D : Kt} (W : Nat → Loc → Store → Prop) (at_ : ∀ i ρ μ, W i ρ μ → μ[n]? = some (.lst xs)) (hend : ∀ ρ μ, W xs.length ρ μ → D.nx ρ μ)
    (step : ∀ i (v : AV) ρ μ, xs[i]? = some v → W i ρ μ → ∃ ρ1, g v ρ = some ρ1 ∧ wo (b ρ1 μ) { D with nx := W (i + 1), ct := W (i + 1), bk := D.nx }) :
    ∀ (m i : Nat) ρ μ, xs.length - i < m → i ≤ xs.length → W i ρ μ → wo (forF g b (.live n) m i ρ μ) D
  | 0, i, ρ, μ, hm, _, _ => absurd hm (Nat.not_lt_zero _)
  | m + 1, i, ρ, μ, hm, hi, h => by
    unfold forF
    simp only [Src.at, at_ i ρ μ h]
    cases e : xs[i]? with
    | none =>
      have : xs.length ≤ i := List.getElem?_eq_none_iff.mp e
      have hi' : i = xs.length := by omega
      subst hi'
      exact hend ρ μ h
    | some v =>
      have hlt : i < xs.length := (List.getElem?_eq_some_iff.mp e).1
      obtain ⟨ρ1, eg, hb⟩ := step i v ρ μ e h
      simp only [eg]
      revert hb
      cases b ρ1 μ with
      | nx ρ2 μ2 => exact fun hb => wo_live W at_ hend step m (i + 1) ρ2 μ2 (by omega) (by omega) hb
      | ct ρ2 μ2 => exact fun hb => wo_live W at_ hend step m (i + 1) ρ2 μ2 (by omega) (by omega) hb
      | bk ρ2 μ2 => exact id
      | rt v μ2 => exact id
      | ex c p ρ2 μ2 => exact id
      | bad => exact id
theorem wp_nox {α : Type} {r : Res α} {Q : α → Store → Prop} : wp r.nox Q = wp r Q := by cases r <;> rfl

theorem wp_lc {g : AG} {te : AE} {xs : List AV} {Q : List AV → Store → Prop} {ρ : Loc} (W : Nat → List AV → Store → Prop) (hz : xs.length ≤ 16777216) (hlen : ∀ i acc μ, W i acc μ → acc.length = i) (hend : ∀ acc μ, W xs.length acc μ → Q acc μ)
    (step : ∀ i (v : AV) acc μ, xs[i]? = some v → W i acc μ → ∃ ρ1, g v ρ = some ρ1 ∧ wp (te ρ1 μ) fun y μ2 => W (i + 1) (acc ++ [y]) μ2) :
    ∀ (m i : Nat) acc μ, xs.length - i < m → i ≤ xs.length → W i acc μ → wp (lcF g tTrue te (.dat xs) m i ρ acc μ) Q
  | 0, i, acc, μ, hm, _, _ => absurd hm (Nat.not_lt_zero _)
  | m + 1, i, acc, μ, hm, hi, h => by
    unfold lcF
    simp only [Src.at]
    cases e : xs[i]? with
    | none =>
      have : xs.length ≤ i := List.getElem?_eq_none_iff.mp e
      have hi' : i = xs.length := by omega
      subst hi'
      exact hend acc μ h
    | some v =>
      have hlt : i < xs.length := (List.getElem?_eq_some_iff.mp e).1
      obtain ⟨ρ1, eg, hb⟩ := step i v acc μ e h
      have hl := hlen i acc μ h
      simp only [eg, tTrue, Res.nox_ok, Res.bind_ok, if_true, wp_bind, wp_nox]
      refine hb.mono fun y μ2 hy => ?_
      rw [if_pos (by omega)]
      exact wp_lc W hz hlen hend step m (i + 1) _ μ2 (by omega) (by omega) hy



def Hst (μ : Store) (n B : Nat) : Prop := ∃ g c m : Int, μ[n]? = some (.lst [.int g, .int c, .int m]) ∧ 0 ≤ g ∧ 0 ≤ c ∧ c < 2147483647 ∧ 0 ≤ m ∧ m ≤ B

def Stp (n : Nat) (μ σ : Store) : Prop := σ.length = μ.length ∧ ∀ i, i ≠ n → σ[i]? = μ[i]?

def Ext (n : Nat) (μ σ : Store) : Prop := μ.length ≤ σ.length ∧ ∀ i, i < μ.length → i ≠ n → σ[i]? = μ[i]?
theorem Hst.lt {μ : Store} {n B : Nat} (h : Hst μ n B) : n < μ.length := let ⟨_, _, _, e, _⟩ := h; (List.getElem?_eq_some_iff.mp e).1
theorem Hst.le {μ : Store} {n B C : Nat} (h : Hst μ n B) (l : B ≤ C) : Hst μ n C := let ⟨g, c, m, e, h1, h2, h3, h4, h5⟩ := h; ⟨g, c, m, e, h1, h2, h3, h4, by omega⟩
theorem Hst.of {μ σ : Store} {n B : Nat} (h : Hst μ n B) (e : σ[n]? = μ[n]?) : Hst σ n B := by
  obtain ⟨g, c, m, h0, h⟩ := h
  exact ⟨g, c, m, e.trans h0, h⟩
theorem Stp.refl (n : Nat) (μ : Store) : Stp n μ μ := ⟨rfl, fun _ _ => rfl⟩
theorem Stp.trans {n : Nat} {μ σ τ : Store} (a : Stp n μ σ) (b : Stp n σ τ) : Stp n μ τ := ⟨b.1.trans a.1, fun i h => (b.2 i h).trans (a.2 i h)⟩
theorem Ext.refl (n : Nat) (μ : Store) : Ext n μ μ := ⟨Nat.le_refl _, fun _ _ _ => rfl⟩
theorem Ext.step {n : Nat} {μ σ τ : Store} (a : Ext n μ σ) (b : Stp n σ τ) : Ext n μ τ := ⟨by rw [b.1]; exact a.1, fun i h1 h2 => (b.2 i h2).trans (a.2 i h1 h2)⟩
theorem Stp.ext {n : Nat} {μ σ : Store} (b : Stp n μ σ) : Ext n μ σ := (Ext.refl n μ).step b
theorem Ext.push {n : Nat} {μ σ : Store} (a : Ext n μ σ) (o : AO) : Ext n μ (σ ++ [o]) := ⟨by have := a.1; simp; omega, fun i h1 h2 => by rw [List.getElem?_append_left (Nat.lt_of_lt_of_le h1 a.1)]; exact a.2 i h1 h2⟩
theorem Ext.set {n l : Nat} {μ σ : Store} (a : Ext n μ σ) (o : AO) (h : μ.length ≤ l ∨ l = n) : Ext n μ (σ.set l o) := ⟨by simp; exact a.1, fun i h1 h2 => by rw [List.getElem?_set_ne (by omega)]; exact a.2 i h1 h2⟩
theorem Hst.push {μ : Store} {n B : Nat} (h : Hst μ n B) (o : AO) : Hst (μ ++ [o]) n B := h.of (by rw [List.getElem?_append_left h.lt])
theorem Hst.set {μ : Store} {n l B : Nat} (h : Hst μ n B) (o : AO) (hl : l ≠ n) : Hst (μ.set l o) n B := h.of (by rw [List.getElem?_set_ne hl])
theorem Ext.gc {n B : Nat} {μ σ : Store} (a : Ext n μ σ) (h : Hst σ n B) (hn : n < μ.length) : gcOk μ σ ∧ Stp n μ (σ.take μ.length) ∧ Hst (σ.take μ.length) n B := by
  refine ⟨fun i o hi e => ?_, ⟨by rw [List.length_take]; have := a.1; omega, fun i hi => ?_⟩, ?_⟩
  · by_cases z : i = n
    · subst z
      obtain ⟨g, c, m, h0, _⟩ := h
      rw [h0] at e
      cases e
      exact .inr rfl
    · rw [a.2 i hi z] at e
      exact .inl e
  · by_cases z : i < μ.length
    · rw [List.getElem?_take_of_lt z, a.2 i z hi]
    · rw [List.getElem?_eq_none (by rw [List.length_take]; omega), List.getElem?_eq_none (by omega)]
  · exact h.of (List.getElem?_take_of_lt hn)

def Draws (f : Fn) (n : Nat) (as : List AV) (j : Nat) (P : AV → Prop) : Prop := ∀ μ B, B + j ≤ 1000000000 → Hst μ n B → wp (f as μ) fun v σ => Stp n μ σ ∧ Hst σ n (B + j) ∧ pure? v = true ∧ P v
theorem Draws.mono {f : Fn} {n : Nat} {as : List AV} {j k : Nat} {P P' : AV → Prop} (h : Draws f n as j P) (l : j ≤ k) (i : ∀ v, pure? v = true → P v → P' v) : Draws f n as k P' :=
  fun μ B hb hs => (h μ B (by omega) hs).mono fun v σ ⟨h1, h2, h3, h4⟩ => ⟨h1, h2.le (by omega), h3, i v h3 h4⟩

theorem Draws.of {n m k j : Nat} {b : AS} {as : List AV} {P : AV → Prop} (hl : as.length = m) (h : ∀ μ B, B + j ≤ 1000000000 → Hst μ n B →
    wo (b (startA k as) μ) { rt := fun v σ => pure? v = true ∧ Ext n μ σ ∧ Hst σ n (B + j) ∧ P v }) : Draws (fnR k m b) n as j P := fun μ B hb hs => by
  refine fn_wp hl ((h μ B hb hs).mono (fun _ _ h => False.elim h) (fun v σ ⟨h1, h2, h3, h4⟩ => ?_) (fun _ _ h => False.elim h) (fun _ _ h => False.elim h))
  obtain ⟨g1, g2, g3⟩ := h2.gc h3 hs.lt
  exact ⟨h1, g1, g2, g3, h1, h4⟩
end Lr


namespace Lr
open PySem PySem.Spec L2
section
variable {α β : Type} {ρ : Loc} {μ : Store} {D : Kt} {Q : AV → Store → Prop} {QL : List AV → Store → Prop} {QB : Bool → Store → Prop} {QO : Option Int → Store → Prop} {QS : Src → Store → Prop}
theorem w_ok {α : Type} {Q : α → Store → Prop} {a : α} (h : Q a μ) : wp (.ok a μ) Q := h
theorem w_bind {α β : Type} {Q : α → Store → Prop} {r : Res β} {f : β → Store → Res α} (h : wp r fun b μ1 => wp (f b μ1) Q) : wp (r.bind f) Q := by rw [wp_bind]; exact h
theorem w_var {i : Nat} {v : AV} (e : ρ[i]? = some (some v)) (h : Q v μ) : wp (eVar i ρ μ) Q := by rw [eVar_s, e]; exact h
theorem w_c {v : AV} (h : Q v μ) : wp (eC v ρ μ) Q := h
theorem w_nil (h : QL [] μ) : wp (aNil ρ μ) QL := h
theorem w_cons {a : AE} {r : AA} (h : wp (a ρ μ) fun x μ1 => wp (r ρ μ1) fun xs μ2 => QL (x :: xs) μ2) : wp (aCons a r ρ μ) QL := by simpa [aCons_s] using h
theorem w_tup {r : AA} (h : wp (r ρ μ) fun xs μ1 => xs.length ≤ 16777216 ∧ Q (.tup xs) μ1) : wp (eTup r ρ μ) Q := by
  rw [eTup_s, wp_bind]
  exact h.mono fun xs μ1 z => by rw [if_pos z.1]; exact z.2
theorem w_lst {r : AA} (h : wp (r ρ μ) fun xs μ1 => xs.length ≤ 16777216 ∧ QL xs μ1) : wp (aLst r ρ μ) QL := by
  rw [aLst_s, wp_bind]
  exact h.mono fun xs μ1 z => by rw [if_pos z.1]; exact z.2
theorem w_new {r : AA} (h : wp (r ρ μ) fun xs μ1 => Q (.loc μ1.length) (μ1 ++ [.lst xs])) : wp (eNew r ρ μ) Q := by rw [eNew_s, wp_bind]; exact h
theorem w_dat {r : AA} (h : wp (r ρ μ) fun xs μ1 => Q (.lst xs) μ1) : wp (eDat r ρ μ) Q := by rw [eDat_s, wp_bind]; exact h
theorem w_op {g : G2} {a b : AE} (h : wp (a ρ μ) fun x μ1 => wp (b ρ μ1) fun y μ2 => wp (g x y μ2) Q) : wp (eOp g a b ρ μ) Q := by rw [eOp_s, wp_bind]; exact h.mono fun x μ1 z => by rw [wp_bind]; exact z
theorem w_call {f : Fn} {a : AA} (h : wp (a ρ μ) fun as μ1 => wp (f as μ1) Q) : wp (eCall f a ρ μ) Q := by rw [eCall_s, wp_bind]; exact h
theorem w_cb {f : Fn} {a : AA} (h : wp (a ρ μ) fun as μ1 => wp (f as μ1) Q) : wp (eCB f a ρ μ) Q := by rw [eCB_s, wp_bind]; exact h
theorem w_acb {f : FnN} {a : AA} (h : wp (a ρ μ) fun as μ1 => wp (f as μ1) QL) : wp (aCB f a ρ μ) QL := by rw [aCB_s, wp_bind]; exact h
theorem w_if {t : AT} {a b : AE} (h : wp (t ρ μ) fun k μ1 => if k = true then wp (a ρ μ1) Q else wp (b ρ μ1) Q) : wp (eIf t a b ρ μ) Q := by rw [eIf_s, wp_bind]; exact h.mono fun k μ1 z => by rw [wp_ite]; exact z
theorem w_b1 {r : AE} (h : wp (r ρ μ) fun x μ1 => ∃ b, x = .bl b ∧ QB b μ1) : wp (tB1 r ρ μ) QB := by rw [tB1_s, wp_bind]; exact h.mono fun x μ1 ⟨b, e, z⟩ => by subst e; exact z
theorem w_nt {r : AT} (h : wp (r ρ μ) fun b μ1 => QB (!b) μ1) : wp (tNt r ρ μ) QB := by rw [tNt_s, wp_bind]; exact h
theorem w_an {t u : AT} (h : wp (t ρ μ) fun b μ1 => if b = true then wp (u ρ μ1) QB else QB false μ1) : wp (tAn t u ρ μ) QB := by rw [tAn_s, wp_bind]; exact h.mono fun k μ1 z => by rw [wp_ite]; exact z
theorem w_orr {t u : AT} (h : wp (t ρ μ) fun b μ1 => if b = true then QB true μ1 else wp (u ρ μ1) QB) : wp (tOrr t u ρ μ) QB := by rw [tOrr_s, wp_bind]; exact h.mono fun k μ1 z => by rw [wp_ite]; exact z
theorem w_tr {r : AE} (h : wp (r ρ μ) fun x μ1 => ∃ b, truA μ1 x = some b ∧ QB b μ1) : wp (tTr r ρ μ) QB := by rw [tTr_s, wp_bind]; exact h.mono fun x μ1 ⟨b, e, z⟩ => by simp only [e]; exact z
theorem w_add {i j : Int} (h : Q (.int (i + j)) μ) : wp (gAdd (.int i) (.int j) μ) Q := h
theorem w_addT {xs ys : List AV} (hz : xs.length + ys.length ≤ 16777216) (h : Q (.tup (xs ++ ys)) μ) : wp (gAdd (.tup xs) (.tup ys) μ) Q := by rw [gAdd_t, if_pos hz]; exact h
theorem w_sub {i j : Int} (h : Q (.int (i - j)) μ) : wp (gSub (.int i) (.int j) μ) Q := h
theorem w_mul {i j : Int} (hm : mulOk i j = true) (h : Q (.int (i * j)) μ) : wp (gMul (.int i) (.int j) μ) Q := by rw [gMul_i, if_pos hm]; exact h
theorem w_div {i j : Int} (h0 : 0 < j) (h1 : j < 18446744073709551616) (h : Q (.int (i / j)) μ) : wp (gDiv (.int i) (.int j) μ) Q := by rw [gDiv_i h0 h1]; exact h
theorem w_mod {i j : Int} (h0 : 0 < j) (h : Q (.int (i % j)) μ) : wp (gMod (.int i) (.int j) μ) Q := by rw [gMod_i, if_pos (decide_eq_true h0)]; exact h
theorem w_pow {i j : Int} (h0 : 0 ≤ j) (h1 : j ≤ 1000) (h2 : i.natAbs < 18446744073709551616) (h : Q (.int (i ^ j.toNat)) μ) : wp (gPow (.int i) (.int j) μ) Q := by
  have h3 : i.natAbs < 2 ^ 64 := h2
  rw [gPow_i, if_pos (by rw [decide_eq_true h0, decide_eq_true h1, decide_eq_true h3]; rfl)]
  exact h
theorem w_lt {i j : Int} (h : Q (.bl (decide (i < j))) μ) : wp (gLt (.int i) (.int j) μ) Q := h
theorem w_le {i j : Int} (h : Q (.bl (decide (i ≤ j))) μ) : wp (gLe (.int i) (.int j) μ) Q := h
theorem w_gt {i j : Int} (h : Q (.bl (decide (j < i))) μ) : wp (gGt (.int i) (.int j) μ) Q := h
theorem w_ge {i j : Int} (h : Q (.bl (decide (j ≤ i))) μ) : wp (gGe (.int i) (.int j) μ) Q := h
def negV : AV → Option Int
  | .int i => some (-i)
  | .bl b => some (-(if b then 1 else 0))
  | _ => none
theorem w_neg {a : AE} (h : wp (a ρ μ) fun x μ1 => ∃ i, negV x = some i ∧ Q (.int i) μ1) : wp (eNeg a ρ μ) Q := by
  rw [eNeg_s, wp_bind]
  refine h.mono fun x μ1 ⟨i, e, z⟩ => ?_
  cases x <;> simp only [negV] at e <;> first | (cases e; done) | skip
  · cases e
    exact z
  · cases e
    exact z
theorem w_addB {b : Bool} {j : Int} (h : Q (.int ((if b then 1 else 0) + j)) μ) : wp (gAdd (.bl b) (.int j) μ) Q := h
theorem w_subB {b : Bool} {j : Int} (h : Q (.int ((if b then 1 else 0) - j)) μ) : wp (gSub (.bl b) (.int j) μ) Q := h
theorem w_strB {b : Bool} (h : Q (.str (if b then "True" else "False")) μ) : wp (gStr [.bl b] μ) Q := h
theorem w_lenT {xs : List AV} (h : Q (.int xs.length) μ) : wp (gLen [.tup xs] μ) Q := h
theorem w_lenL {xs : List AV} (h : Q (.int xs.length) μ) : wp (gLen [.lst xs] μ) Q := h
theorem w_lenC {ns : List Int} (h : Q (.int ns.length) μ) : wp (gLen [.scr ns] μ) Q := h
theorem w_lenO {n : Nat} {xs : List AV} (e : μ[n]? = some (.lst xs)) (h : Q (.int xs.length) μ) : wp (gLen [.loc n] μ) Q := by simp only [gLen, seqOf, lsOf, e]; exact h
theorem w_abs {i : Int} (h : Q (.int (if i < 0 then -i else i)) μ) : wp (gAbs [.int i] μ) Q := h
theorem w_max {i j : Int} (h : Q (.int (if j > i then j else i)) μ) : wp (gMax [.int i, .int j] μ) Q := h
theorem w_min {i j : Int} (h : Q (.int (if j < i then j else i)) μ) : wp (gMin [.int i, .int j] μ) Q := h
theorem w_intI {i : Int} (h : Q (.int i) μ) : wp (gInt [.int i] μ) Q := h
theorem w_intB {b : Bool} (h : Q (.int (if b then 1 else 0)) μ) : wp (gInt [.bl b] μ) Q := h
theorem w_tupT {xs : List AV} (h : Q (.tup xs) μ) : wp (gTuple [.tup xs] μ) Q := h
theorem w_tupL {xs : List AV} (h : Q (.tup xs) μ) : wp (gTuple [.lst xs] μ) Q := h
theorem w_tupO {n : Nat} {xs : List AV} (e : μ[n]? = some (.lst xs)) (h : Q (.tup xs) μ) : wp (gTuple [.loc n] μ) Q := by simp only [gTuple, seqOf, lsOf, e]; exact h
theorem w_lisT {xs : List AV} (h : QL xs μ) : wp (gList [.tup xs] μ) QL := h
theorem w_ixT {xs : List AV} {i : Int} {v : AV} (e : atI xs i = some v) (h : Q v μ) : wp (gIx (.tup xs) (.int i) μ) Q := by rw [gIx_t e]; exact h
theorem w_ixL {xs : List AV} {i : Int} {v : AV} (e : atI xs i = some v) (h : Q v μ) : wp (gIx (.lst xs) (.int i) μ) Q := by rw [gIx_l e]; exact h
theorem w_ixO {n : Nat} {xs : List AV} {i : Int} {v : AV} (e : μ[n]? = some (.lst xs)) (e2 : atI xs i = some v) (h : Q v μ) : wp (gIx (.loc n) (.int i) μ) Q := by rw [gIx_o e e2]; exact h
theorem w_ixC {ns : List Int} {i j : Int} (e : atI ns i = some j) (h : Q (.int j) μ) : wp (gIx (.scr ns) (.int i) μ) Q := by rw [gIx_c e]; exact h
theorem w_chain {g g' : G2} {a b c : AE} (h : wp (a ρ μ) fun x μ1 => wp (b ρ μ1) fun y μ2 => wp (g x y μ2) fun z μ3 => ∃ k, z = .bl k ∧ if k = true then (wp (c ρ μ3) fun u μ4 => wp (g' y u μ4) Q) else Q (.bl false) μ3) : wp (eChain g g' a b c ρ μ) Q := by
  unfold eChain
  rw [wp_bind]
  refine h.mono fun x μ1 h => ?_
  rw [wp_bind]
  refine h.mono fun y μ2 h => ?_
  rw [wp_bind]
  refine h.mono fun z μ3 h => ?_
  obtain ⟨k, rfl, h⟩ := h
  cases k with
  | true => simp only [if_true] at h; simp only [wp_bind]; exact h
  | false => simpa using h
theorem w_eAn {a b : AE} (h : wp (a ρ μ) fun x μ1 => ∃ k, x = .bl k ∧ if k = true then wp (b ρ μ1) Q else Q (.bl false) μ1) : wp (eAn a b ρ μ) Q := by
  unfold eAn
  rw [wp_bind]
  refine h.mono fun z μ3 h => ?_
  obtain ⟨k, rfl, h⟩ := h
  cases k <;> simpa using h
theorem w_eOr {a b : AE} (h : wp (a ρ μ) fun x μ1 => ∃ k, x = .bl k ∧ if k = true then Q (.bl true) μ1 else wp (b ρ μ1) Q) : wp (eOr a b ρ μ) Q := by
  unfold eOr
  rw [wp_bind]
  refine h.mono fun z μ3 h => ?_
  obtain ⟨k, rfl, h⟩ := h
  cases k <;> simpa using h
theorem w_eNt {a : AE} (h : wp (a ρ μ) fun x μ1 => ∃ k, x = .bl k ∧ Q (.bl (!k)) μ1) : wp (eNt a ρ μ) Q := by
  unfold eNt
  rw [wp_bind]
  refine h.mono fun z μ3 h => ?_
  obtain ⟨k, rfl, h⟩ := h
  exact h
theorem w_oN (h : QO none μ) : wp (oNone ρ μ) QO := h
theorem w_oS {r : AE} (h : wp (r ρ μ) fun x μ1 => ∃ i, x = .int i ∧ QO (some i) μ1) : wp (oSome r ρ μ) QO := by
  unfold oSome
  rw [wp_bind]
  refine h.mono fun z μ3 h => ?_
  obtain ⟨k, rfl, h⟩ := h
  exact h
theorem w_sl {a : AE} {lo hi : AO'} (h : wp (a ρ μ) fun x μ1 => ∃ xs, x = .tup xs ∧ wp (lo ρ μ1) fun l μ2 => wp (hi ρ μ2) fun u μ3 => Q (.tup (cutA xs l u)) μ3) : wp (eSl a lo hi ρ μ) Q := by
  unfold eSl
  rw [wp_bind]
  refine h.mono fun z μ3 h => ?_
  obtain ⟨k, rfl, h⟩ := h
  rw [wp_bind]
  refine h.mono fun z μ3 h => ?_
  rw [wp_bind]
  exact h
theorem w_rev {a : AE} (h : wp (a ρ μ) fun x μ1 => ∃ xs, x = .tup xs ∧ Q (.tup xs.reverse) μ1) : wp (eRev a ρ μ) Q := by
  unfold eRev
  rw [wp_bind]
  refine h.mono fun z μ3 h => ?_
  obtain ⟨k, rfl, h⟩ := h
  exact h
theorem w_cat {a b : AE} (h : wp (a ρ μ) fun x μ1 => wp (b ρ μ1) fun y μ2 => ∃ xs ys, lsOf μ2 x = some xs ∧ lsOf μ2 y = some ys ∧ xs.length + ys.length ≤ 16777216 ∧ QL (xs ++ ys) μ2) : wp (aCat a b ρ μ) QL := by
  unfold aCat
  rw [wp_bind]
  refine h.mono fun x μ1 h => ?_
  rw [wp_bind]
  refine h.mono fun y μ2 h => ?_
  obtain ⟨xs, ys, e1, e2, hz, h⟩ := h
  simp only [e1, e2, if_pos hz]
  exact h
theorem w_app {o a : AE} (h : wp (o ρ μ) fun l μ1 => isLs μ1 l = true ∧ wp (a ρ μ1) fun v μ2 => ∃ n xs, l = .loc n ∧ μ2[n]? = some (.lst xs) ∧ xs.length < 16777216 ∧ Q .non (μ2.set n (.lst (xs ++ [v])))) : wp (eApp2 o a ρ μ) Q := by
  unfold eApp2
  rw [wp_bind]
  refine h.mono fun l μ1 h => ?_
  rw [if_pos h.1, wp_bind]
  refine h.2.mono fun v μ2 h => ?_
  obtain ⟨n, xs, rfl, e, hz, h⟩ := h
  simp only [stL_o e, if_pos hz]
  exact h
theorem w_ext {o a : AE} (h : wp (o ρ μ) fun l μ1 => isLs μ1 l = true ∧ wp (a ρ μ1) fun v μ2 => ∃ n xs ys, l = .loc n ∧ μ2[n]? = some (.lst xs) ∧ itsOf μ2 v = some ys ∧ xs.length + ys.length ≤ 16777216 ∧ Q .non (μ2.set n (.lst (xs ++ ys)))) : wp (eExt o a ρ μ) Q := by
  unfold eExt
  rw [wp_bind]
  refine h.mono fun l μ1 h => ?_
  rw [if_pos h.1, wp_bind]
  refine h.2.mono fun v μ2 h => ?_
  obtain ⟨n, xs, ys, rfl, e, e2, hz, h⟩ := h
  simp only [stL_o e, e2, if_pos hz]
  exact h
theorem w_dic0 (h : Q (.dct []) μ) : wp (eDic pNil ρ μ) Q := h
theorem w_dic1 {k : Str} {a : AE} (h : wp (a ρ μ) fun v μ1 => Q (.dct [(.str k, v)]) μ1) : wp (eDic (pCons (eC (.str k)) a pNil) ρ μ) Q := by
  unfold eDic pCons pNil
  simp only [eC_s, Res.bind_ok, wp_bind]
  refine h.mono fun v μ1 h => ?_
  simp [keysOf, keyOf]
  exact h
theorem w_gEq {x y : AV} {r : Bool} (e : eqB x y μ = some r) (hd : min (depM μ x) (depM μ y) ≤ 150) (h : Q (.bl r) μ) : wp (gEq x y μ) Q := by
  unfold gEq
  simp only [e, if_pos hd]
  exact h
theorem w_gNe {x y : AV} {r : Bool} (e : eqB x y μ = some r) (hd : min (depM μ x) (depM μ y) ≤ 150) (h : Q (.bl (!r)) μ) : wp (gNe x y μ) Q := by
  unfold gNe
  simp only [e, if_pos hd]
  exact h
theorem w_isi {x : AV} {n k : String} {b : Bool} (e : kindA μ x = some k) (e2 : isiB k n = some b) (h : Q (.bl b) μ) : wp (gIsi [x, .ty n] μ) Q := by
  unfold gIsi
  simp only [e, e2]
  exact h
theorem w_repr {x : AV} {d : PyData} (e : toD x = some d) (hk : repOk d = true) (h : Q (.str d.shown) μ) : wp (gRepr [x] μ) Q := by
  unfold gRepr
  simp only [e, if_pos hk]
  exact h
theorem w_str {i : Int} (hi : i.natAbs.log2 < 1920) (h : Q (.str (toString i)) μ) : wp (gStr [.int i] μ) Q := by
  unfold gStr
  simp only [if_pos hi]
  exact h
theorem w_all {xs : List AV} {bs : List Bool} (e : blsOf xs = some bs) (h : Q (.bl (bs.all _root_.id)) μ) : wp (gAll [.lst xs] μ) Q := by
  simp only [gAll, lsOf_lst, e]
  exact h
theorem w_rng {r : AA} (h : wp (r ρ μ) fun xs μ1 => ∃ j : Int, xs = [.int j] ∧ -4611686018427387904 ≤ j ∧ j < 4611686018427387904 ∧ QS (.dat (rangeL 0 j.toNat)) μ1) : wp (iRng r ρ μ) QS := by
  unfold iRng
  rw [wp_bind]
  refine h.mono fun xs μ1 h => ?_
  obtain ⟨j, rfl, h0, h1, h⟩ := h
  have e : (decide (-(2 ^ 62) ≤ j) && decide (j < 2 ^ 62)) = true := by
    rw [decide_eq_true (show -(2 ^ 62) ≤ j from h0), decide_eq_true (show j < 2 ^ 62 from h1)]
    rfl
  simp only [e, if_true]
  exact h
theorem w_anyT {r : AE} (h : wp (r ρ μ) fun x μ1 => ∃ xs, x = .tup xs ∧ QS (.dat xs) μ1) : wp (iAny r ρ μ) QS := by
  unfold iAny
  rw [wp_bind]
  refine h.mono fun xs μ1 h => ?_
  obtain ⟨j, rfl, h⟩ := h
  exact h
theorem w_anyL {r : AE} (h : wp (r ρ μ) fun x μ1 => ∃ xs, x = .lst xs ∧ QS (.dat xs) μ1) : wp (iAny r ρ μ) QS := by
  unfold iAny
  rw [wp_bind]
  refine h.mono fun xs μ1 h => ?_
  obtain ⟨j, rfl, h⟩ := h
  exact h
theorem w_anyO {r : AE} (h : wp (r ρ μ) fun x μ1 => ∃ n xs, x = .loc n ∧ μ1[n]? = some (.lst xs) ∧ QS (.live n) μ1) : wp (iAny r ρ μ) QS := by
  unfold iAny
  rw [wp_bind]
  refine h.mono fun xs μ1 h => ?_
  obtain ⟨j, xs, rfl, e, h⟩ := h
  simp only [e]
  exact h
theorem w_lcU {it : AI} {vs : List Nat} {g : AG} {tt : AT} {te : AE} (h : wp (it ρ μ) fun src μ1 => wp (lcF g tt te src FUEL 0 (wipeA ρ vs) [] μ1) QL) : wp (aLc it vs g tt te ρ μ) QL := by unfold aLc; rw [wp_bind]; exact h

theorem o_seq {a b : AS} (h : wo (a ρ μ) { D with nx := fun ρ1 μ1 => wo (b ρ1 μ1) D }) : wo (sSeq a b ρ μ) D := by rw [wo_seq]; exact h
theorem o_set {i : Nat} {r : AE} (h : wp (r ρ μ) fun v μ1 => D.nx (ρ.set i (some v)) μ1) : wo (sSet i r ρ μ) D := by rw [wo_set]; exact h
theorem o_ret {r : AE} (h : wp (r ρ μ) fun v μ1 => D.rt v μ1) : wo (sRet r ρ μ) D := by rw [wo_ret]; exact h
theorem o_expr {r : AE} (h : wp (r ρ μ) fun _ μ1 => D.nx ρ μ1) : wo (sExpr r ρ μ) D := by rw [wo_expr]; exact h
theorem o_if {t : AT} {a b : AS} (h : wp (t ρ μ) fun k μ1 => if k = true then wo (a ρ μ1) D else wo (b ρ μ1) D) : wo (sIf t a b ρ μ) D := by rw [wo_if]; exact h
theorem o_nil (h : D.nx ρ μ) : wo (sNil ρ μ) D := h
theorem o_for {it : AI} {g : AG} {b : AS} (h : wp (it ρ μ) fun src μ1 => wo (forF g b src FUEL 0 ρ μ1) D) : wo (sFor it g b ρ μ) D := by rw [wo_for]; exact h
theorem o_sub {o i r : AE} (h : wp (r ρ μ) fun v μ1 => wp (o ρ μ1) fun l μ2 => wp (i ρ μ2) fun j μ3 => ∃ n xs k m, l = .loc n ∧ j = .int k ∧ μ3[n]? = some (.lst xs) ∧ ixN xs.length k = some m ∧ D.nx ρ (μ3.set n (.lst (xs.set m v)))) : wo (sSub o i r ρ μ) D := by
  rw [sSub_s, wo_out]
  refine h.mono fun v μ1 h => ?_
  rw [wo_out]
  refine h.mono fun l μ2 h => ?_
  rw [wo_out]
  refine h.mono fun j μ3 h => ?_
  obtain ⟨n, xs, k, m, rfl, rfl, e, e2, h⟩ := h
  simp only [stL_o e, e2]
  exact h
theorem o_par {r : AA} {gs : AGs} (h : wp (r ρ μ) fun vs μ1 => vs.length ≤ 16777216 ∧ ∃ ρ1, gs vs ρ = some ρ1 ∧ D.nx ρ1 μ1) : wo (sPar r gs ρ μ) D := by
  unfold sPar
  rw [wo_out]
  refine h.mono fun vs μ1 h => ?_
  obtain ⟨hz, ρ1, e, h⟩ := h
  simp only [if_pos hz, e]
  exact h
theorem o_asg {r : AE} {g : AG} (h : wp (r ρ μ) fun v μ1 => ∃ ρ1, g v ρ = some ρ1 ∧ D.nx ρ1 μ1) : wo (sAsg r g ρ μ) D := by
  unfold sAsg
  rw [wo_out]
  refine h.mono fun vs μ1 h => ?_
  obtain ⟨ρ1, e, h⟩ := h
  simp only [e]
  exact h
end

section
variable {ρ : Loc} {μ : Store} {D : Kt} {Q : AV → Store → Prop} {QL : List AV → Store → Prop}
theorem w_dnew (h : Q (.loc μ.length) (μ ++ [.dct []])) : wp (eDNew ρ μ) Q := h
theorem w_dkeep {r : AD} (h : wp (r ρ μ) fun kvs μ1 => Q (.loc μ1.length) (μ1 ++ [.dct kvs])) : wp (eDKeep r ρ μ) Q := by
  unfold eDKeep
  rw [wp_bind]
  exact h
theorem stD_o {n : Nat} {kvs : List (Key × AV)} (e : μ[n]? = some (.dct kvs)) : stD μ (.loc n) = some (n, kvs) := by simp [stD, e]
theorem w_upd {o a : AE} (h : wp (o ρ μ) fun l μ1 => isDc μ1 l = true ∧ wp (a ρ μ1) fun v μ2 => ∃ n kvs m more, l = .loc n ∧ v = .loc m ∧ μ2[n]? = some (.dct kvs) ∧ μ2[m]? = some (.dct more) ∧ n ≠ m ∧ kvs.length + more.length ≤ 16777216 ∧ Q .non (μ2.set n (.dct (mergeA kvs more)))) : wp (eUpd o a ρ μ) Q := by
  unfold eUpd
  rw [wp_bind]
  refine h.mono fun l μ1 h => ?_
  rw [if_pos h.1, wp_bind]
  refine h.2.mono fun v μ2 h => ?_
  obtain ⟨n, kvs, m, more, rfl, rfl, e, e2, hne, hz, h⟩ := h
  simp only [stD_o e, stD_o e2]
  rw [if_pos ⟨hne, hz⟩]
  exact h
theorem o_dput {o i r : AE} (h : wp (r ρ μ) fun v μ1 => wp (o ρ μ1) fun l μ2 => wp (i ρ μ2) fun j μ3 => ∃ n kvs k, l = .loc n ∧ keyOf j = some k ∧ μ3[n]? = some (.dct kvs) ∧ kvs.length < 16777216 ∧ D.nx ρ (μ3.set n (.dct (putA kvs k v)))) : wo (sDPutA o i r ρ μ) D := by
  unfold sDPutA
  rw [wo_out]
  refine h.mono fun v μ1 h => ?_
  rw [wo_out]
  refine h.mono fun l μ2 h => ?_
  rw [wo_out]
  refine h.mono fun j μ3 h => ?_
  obtain ⟨n, kvs, k, rfl, ek, e, hz, h⟩ := h
  simp only [stD_o e, ek, if_pos hz]
  exact h
theorem w_sum {x : AV} {xs : List AV} {ns : List Int} (e : lsOf μ x = some xs) (e2 : intsOf xs = some ns) (h : Q (.int ns.sum) μ) : wp (gSum [x] μ) Q := by
  unfold gSum
  simp only [e, e2]
  exact h
theorem w_sortD {n : Nat} {kvs : List (Key × AV)} {ks : List Str} (e : μ[n]? = some (.dct kvs)) (e2 : strsOf (kvs.map (·.1)) = some ks) (hz : ks.length < 64) (h : QL ((sortS ks).map AV.str) μ) : wp (gSortD [.loc n] μ) QL := by
  unfold gSortD
  simp only [stD_o e, e2, if_pos hz]
  exact h
theorem w_pop0 {o : AE} (h : wp (o ρ μ) fun l μ1 => ∃ n xs y, l = .loc n ∧ μ1[n]? = some (.lst xs) ∧ xs[xs.length - 1]? = some y ∧ Q y (μ1.set n (.lst xs.dropLast))) : wp (ePop0 o ρ μ) Q := by
  unfold ePop0
  rw [wp_bind]
  refine h.mono fun l μ1 h => ?_
  obtain ⟨n, xs, y, rfl, e, e2, h⟩ := h
  simp only [stL_o e, e2]
  exact h
theorem w_pop1 {o a : AE} (h : wp (o ρ μ) fun l μ1 => isLs μ1 l = true ∧ wp (a ρ μ1) fun v μ2 => ∃ n xs i j y, l = .loc n ∧ v = .int i ∧ μ2[n]? = some (.lst xs) ∧ ixN xs.length i = some j ∧ xs.length ≤ 16777216 ∧ xs[j]? = some y ∧ Q y (μ2.set n (.lst (xs.eraseIdx j)))) : wp (ePop1 o a ρ μ) Q := by
  unfold ePop1
  rw [wp_bind]
  refine h.mono fun l μ1 h => ?_
  rw [if_pos h.1, wp_bind]
  refine h.2.mono fun v μ2 h => ?_
  obtain ⟨n, xs, i, j, y, rfl, rfl, e, ej, hz, ey, h⟩ := h
  simp only [stL_o e, ej, if_pos hz, ey]
  exact h

theorem wp_lcI {g : AG} {tt : AT} {te : AE} {xs : List AV} (W : Nat → List AV → Store → Prop) (hend : ∀ acc μ, W xs.length acc μ → QL acc μ)
    (step : ∀ i (v : AV) acc μ, xs[i]? = some v → W i acc μ → ∃ ρ1, g v ρ = some ρ1 ∧ wp (tt ρ1 μ) fun b μ1 => if b = true then wp (te ρ1 μ1) fun y μ2 => acc.length < 16777216 ∧ W (i + 1) (acc ++ [y]) μ2 else W (i + 1) acc μ1) :
    ∀ (m i : Nat) acc μ, xs.length - i < m → i ≤ xs.length → W i acc μ → wp (lcF g tt te (.dat xs) m i ρ acc μ) QL
  | 0, i, acc, μ, hm, _, _ => absurd hm (Nat.not_lt_zero _)
  | m + 1, i, acc, μ, hm, hi, h => by
    unfold lcF
    simp only [Src.at]
    cases e : xs[i]? with
    | none =>
      have : xs.length ≤ i := List.getElem?_eq_none_iff.mp e
      have hi' : i = xs.length := by omega
      subst hi'
      exact hend acc μ h
    | some v =>
      have hlt : i < xs.length := (List.getElem?_eq_some_iff.mp e).1
      obtain ⟨ρ1, eg, ht⟩ := step i v acc μ e h
      simp only [eg]
      obtain ⟨b, μ1, eb, ht⟩ := ht.elim
      rw [eb]
      simp only [Res.nox_ok, Res.bind_ok]
      cases b with
      | false =>
        simp only [Bool.false_eq_true, if_false] at ht ⊢
        exact wp_lcI W hend step m (i + 1) acc μ1 (by omega) (by omega) ht
      | true =>
        simp only [if_true] at ht ⊢
        obtain ⟨y, μ2, ey, hz, hy⟩ := ht.elim
        rw [ey]
        simp only [Res.nox_ok, Res.bind_ok, if_pos hz]
        exact wp_lcI W hend step m (i + 1) _ μ2 (by omega) (by omega) hy

theorem wp_lcO {g : AG} {tt : AT} {te : AE} {n : Nat} {xs : List AV} (W : Nat → List AV → Store → Prop) (at_ : ∀ i acc μ, W i acc μ → μ[n]? = some (.lst xs)) (hend : ∀ acc μ, W xs.length acc μ → QL acc μ)
    (step : ∀ i (v : AV) acc μ, xs[i]? = some v → W i acc μ → ∃ ρ1, g v ρ = some ρ1 ∧ wp (tt ρ1 μ) fun b μ1 => if b = true then wp (te ρ1 μ1) fun y μ2 => acc.length < 16777216 ∧ W (i + 1) (acc ++ [y]) μ2 else W (i + 1) acc μ1) :
    ∀ (m i : Nat) acc μ, xs.length - i < m → i ≤ xs.length → W i acc μ → wp (lcF g tt te (.live n) m i ρ acc μ) QL
  | 0, i, acc, μ, hm, _, _ => absurd hm (Nat.not_lt_zero _)
  | m + 1, i, acc, μ, hm, hi, h => by
    unfold lcF
    simp only [Src.at, at_ i acc μ h]
    cases e : xs[i]? with
    | none =>
      have : xs.length ≤ i := List.getElem?_eq_none_iff.mp e
      have hi' : i = xs.length := by omega
      subst hi'
      exact hend acc μ h
    | some v =>
      have hlt : i < xs.length := (List.getElem?_eq_some_iff.mp e).1
      obtain ⟨ρ1, eg, ht⟩ := step i v acc μ e h
      simp only [eg]
      obtain ⟨b, μ1, eb, ht⟩ := ht.elim
      rw [eb]
      simp only [Res.nox_ok, Res.bind_ok]
      cases b with
      | false =>
        simp only [Bool.false_eq_true, if_false] at ht ⊢
        exact wp_lcO W at_ hend step m (i + 1) acc μ1 (by omega) (by omega) ht
      | true =>
        simp only [if_true] at ht ⊢
        obtain ⟨y, μ2, ey, hz, hy⟩ := ht.elim
        rw [ey]
        simp only [Res.nox_ok, Res.bind_ok, if_pos hz]
        exact wp_lcO W at_ hend step m (i + 1) _ μ2 (by omega) (by omega) hy
abbrev QD := List (Key × AV) → Store → Prop
theorem w_dcU {Q : QD} {it : AI} {vs : List Nat} {g : AG} {tt : AT} {tk tv : AE} (h : wp (it ρ μ) fun src μ1 => wp (dcF g tt tk tv src FUEL 0 (wipeA ρ vs) [] μ1) Q) : wp (aDc it vs g tt tk tv ρ μ) Q := by unfold aDc; rw [wp_bind]; exact h
theorem wp_dc {Q : QD} {g : AG} {tk tv : AE} {xs : List AV} (W : Nat → List (Key × AV) → Store → Prop) (hend : ∀ acc μ, W xs.length acc μ → Q acc μ)
    (step : ∀ i (v : AV) acc μ, xs[i]? = some v → W i acc μ → ∃ ρ1, g v ρ = some ρ1 ∧ wp (tk ρ1 μ) fun y μ2 => wp (tv ρ1 μ2) fun z μ3 => ∃ k, keyOf y = some k ∧ acc.length < 16777216 ∧ W (i + 1) (putA acc k z) μ3) :
    ∀ (m i : Nat) acc μ, xs.length - i < m → i ≤ xs.length → W i acc μ → wp (dcF g tTrue tk tv (.dat xs) m i ρ acc μ) Q
  | 0, i, acc, μ, hm, _, _ => absurd hm (Nat.not_lt_zero _)
  | m + 1, i, acc, μ, hm, hi, h => by
    unfold dcF
    simp only [Src.at]
    cases e : xs[i]? with
    | none =>
      have : xs.length ≤ i := List.getElem?_eq_none_iff.mp e
      have hi' : i = xs.length := by omega
      subst hi'
      exact hend acc μ h
    | some v =>
      have hlt : i < xs.length := (List.getElem?_eq_some_iff.mp e).1
      obtain ⟨ρ1, eg, ht⟩ := step i v acc μ e h
      simp only [eg, tTrue, Res.nox_ok, Res.bind_ok, if_true]
      obtain ⟨y, μ2, ey, hy⟩ := ht.elim
      rw [ey]
      simp only [Res.nox_ok, Res.bind_ok]
      obtain ⟨z, μ3, ez, k, ek, hz, hw⟩ := hy.elim
      rw [ez]
      simp only [Res.nox_ok, Res.bind_ok, ek, if_pos hz]
      exact wp_dc W hend step m (i + 1) _ μ3 (by omega) (by omega) hw

theorem wo_while {t : AT} {b : AS} (W : Nat → Loc → Store → Prop)
    (step : ∀ m ρ μ, W m ρ μ → wp (t ρ μ) fun k μ1 => if k = true then wo (b ρ μ1) { D with nx := fun ρ2 μ2 => ∃ m', m' < m ∧ W m' ρ2 μ2, ct := fun ρ2 μ2 => ∃ m', m' < m ∧ W m' ρ2 μ2, bk := D.nx } else D.nx ρ μ1) :
    ∀ (n m : Nat) ρ μ, m < n → W m ρ μ → wo (whileF t b n ρ μ) D
  | 0, m, ρ, μ, hm, _ => absurd hm (Nat.not_lt_zero _)
  | n + 1, m, ρ, μ, hm, h => by
    unfold whileF
    rw [wo_out]
    refine (step m ρ μ h).mono fun k μ1 hk => ?_
    cases k with
    | false => simpa using hk
    | true =>
      simp only [if_true] at hk ⊢
      revert hk
      cases b ρ μ1 with
      | nx ρ2 μ2 => exact fun ⟨m', l, h'⟩ => wo_while W step n m' ρ2 μ2 (by omega) h'
      | ct ρ2 μ2 => exact fun ⟨m', l, h'⟩ => wo_while W step n m' ρ2 μ2 (by omega) h'
      | bk ρ2 μ2 => exact id
      | rt v μ2 => exact id
      | ex c p ρ2 μ2 => exact id
      | bad => exact id
theorem o_while {t : AT} {b : AS} (h : wo (whileF t b FUEL ρ μ) D) : wo (sWhile t b ρ μ) D := h
end
theorem w_len {n : Nat} {P : Prop} (h : n ≤ 16777216) (k : P) : n ≤ 16777216 ∧ P := ⟨h, k⟩
theorem startA_s {n : Nat} {as : List AV} : startA n as = as.map some ++ List.replicate (n - as.length) none := rfl
end Lr


namespace Lr
open PySem PySem.Spec L2
mutual
def sz : AV → Nat
  | .non => 4
  | .bl _ => 5
  | .int i => (PyData.shown (.int i)).length
  | .str x => (PyData.shown (.str x)).length
  | .tup xs => 3 + szL xs
  | .lst xs => 3 + szL xs
  | .dct kvs => 3 + szD kvs
  | _ => 0
def szL : List AV → Nat
  | [] => 0
  | x :: xs => sz x + 2 + szL xs
def szD : List (AV × AV) → Nat
  | [] => 0
  | (x, y) :: xs => sz x + sz y + 4 + szD xs
end
mutual

def sh : AV → Bool
  | .non => true
  | .bl _ => true
  | .str _ => true
  | .int i => decide (i.natAbs.log2 < 1920)
  | .tup xs => shL xs
  | .lst xs => shL xs
  | .dct kvs => shD kvs
  | _ => false
def shL : List AV → Bool
  | [] => true
  | x :: xs => sh x && shL xs
def shD : List (AV × AV) → Bool
  | [] => true
  | (x, y) :: xs => sh x && sh y && shD xs
end
def sumL (ts : List Str) : Nat := (ts.map fun t => t.length + 2).sum
theorem len_app (a b : Str) : (a ++ b).length = a.length + b.length := strLen_append a b
theorem textFrom_le : ∀ (ts : List Str) (k : Nat) (acc : Str), (textFrom k acc ts).length ≤ acc.length + sumL ts
  | [], k, acc => Nat.le_add_right _ _
  | t :: r, k, acc => by
    have ih := textFrom_le r (k + 1) (acc ++ (if k > 0 then ", " else "" : String) ++ t)
    have e : textFrom k acc (t :: r) = textFrom (k + 1) (acc ++ (if k > 0 then ", " else "" : String) ++ t) r := rfl
    rw [e]
    rw [len_app, len_app] at ih
    have h2 : (Str.ofString (if k > 0 then ", " else "" : String)).length ≤ 2 := by
      split <;> decide
    have : sumL (t :: r) = t.length + 2 + sumL r := by simp [sumL]
    have ih2 : (textFrom (k + 1) (acc ++ (if k > 0 then ", " else "" : String) ++ t) r).length ≤ acc.length + (Str.ofString (if k > 0 then ", " else "" : String)).length + t.length + sumL r := ih
    omega
theorem join_le : ∀ ts : List Str, (Str.join ", " ts).length ≤ sumL ts
  | [] => Nat.le_refl _
  | [x] => by show x.length ≤ _; simp [sumL]
  | x :: y :: r => by
    have ih := join_length_add (x :: y :: r) (by simp)
    have ih2 := join_le (y :: r)
    have e3 := join_length_add (y :: r) (by simp)
    have e : sumL (x :: y :: r) = x.length + 2 + sumL (y :: r) := by simp [sumL]
    have e2 : piled (x :: y :: r) = x.length + 2 + piled (y :: r) := by simp [piled]
    omega
theorem tupleText_le (ts : List Str) : (tupleText ts).length ≤ 3 + sumL ts := by
  unfold tupleText
  rw [len_app, len_app]
  have := join_le ts
  have h2 : (Str.ofString (if ts.length == 1 then ",)" else ")" : String)).length ≤ 2 := by split <;> decide
  have h1 : (Str.ofString "(").length = 1 := rfl
  have h3 : (Str.ofString "(").length + (Str.join ", " ts).length + (Str.ofString (if ts.length == 1 then ",)" else ")" : String)).length ≤ 3 + sumL ts := by omega
  exact h3
theorem listText_le (ts : List Str) : (listText ts).length ≤ 3 + sumL ts := by
  unfold listText
  rw [len_app]
  have := textFrom_le ts 0 "["
  have h1 : (Str.ofString "[").length = 1 := rfl
  have h2 : (Str.ofString "]").length = 1 := rfl
  have h3 : (textFrom 0 "[" ts).length + (Str.ofString "]").length ≤ 3 + sumL ts := by omega
  exact h3
theorem dictText_le (ts : List Str) : (dictText ts).length ≤ 3 + sumL ts := by
  unfold dictText
  rw [len_app, len_app]
  have := join_le ts
  have h1 : (Str.ofString "{").length = 1 := rfl
  have h2 : (Str.ofString "}").length = 1 := rfl
  have h3 : (Str.ofString "{").length + (Str.join ", " ts).length + (Str.ofString "}").length ≤ 3 + sumL ts := by omega
  exact h3
mutual
theorem toD_sh : ∀ v : AV, sh v = true → ∃ D, toD v = some D ∧ D.showable = true ∧ D.shown.length ≤ sz v ∧ D.depth ≤ dep v
  | .non, _ => ⟨_, rfl, rfl, by decide, Nat.le_refl _⟩
  | .bl b, _ => ⟨_, rfl, rfl, by cases b <;> decide, Nat.le_refl _⟩
  | .str x, _ => ⟨_, rfl, rfl, Nat.le_refl _, Nat.le_refl _⟩
  | .int i, h => ⟨_, rfl, by simpa [PyData.showable, sh] using h, Nat.le_refl _, Nat.le_refl _⟩
  | .tup xs, h => by
    obtain ⟨Ds, e, h1, h2, h3⟩ := toDL_sh xs (by simpa [sh] using h)
    exact ⟨.tuple Ds, by simp [toD, e], by simpa [PyData.showable] using h1, by
      have := tupleText_le (PyData.shownAll Ds)
      simp only [PyData.shown, sz]
      omega, by simp only [PyData.depth, dep]; omega⟩
  | .lst xs, h => by
    obtain ⟨Ds, e, h1, h2, h3⟩ := toDL_sh xs (by simpa [sh] using h)
    exact ⟨.list Ds, by simp [toD, e], by simpa [PyData.showable] using h1, by
      have := listText_le (PyData.shownAll Ds)
      simp only [PyData.shown, sz]
      omega, by simp only [PyData.depth, dep]; omega⟩
  | .dct xs, h => by
    obtain ⟨Ds, e, h1, h2, h3⟩ := toDD_sh xs (by simpa [sh] using h)
    exact ⟨.dict Ds, by simp [toD, e], by simpa [PyData.showable] using h1, by
      have := dictText_le (PyData.shownKv Ds)
      simp only [PyData.shown, sz]
      omega, by simp only [PyData.depth, dep]; omega⟩
  | .loc _, h => by simp [sh] at h
  | .obj _, h => by simp [sh] at h
  | .scr _, h => by simp [sh] at h
  | .ty _, h => by simp [sh] at h
theorem toDL_sh : ∀ v : List AV, shL v = true → ∃ D, toDL v = some D ∧ PyData.showableAll D = true ∧ sumL (PyData.shownAll D) ≤ szL v ∧ PyData.depthAll D ≤ depL v
  | [], _ => ⟨[], rfl, rfl, Nat.le_refl _, Nat.le_refl _⟩
  | x :: xs, h => by
    simp only [shL, Bool.and_eq_true] at h
    obtain ⟨D, e, h1, h2, h3⟩ := toD_sh x h.1
    obtain ⟨Ds, e', h1', h2', h3'⟩ := toDL_sh xs h.2
    refine ⟨D :: Ds, by simp [toDL, e, e'], by simp [PyData.showableAll, h1, h1'], ?_, by simp only [PyData.depthAll, depL]; omega⟩
    have : sumL (PyData.shownAll (D :: Ds)) = D.shown.length + 2 + sumL (PyData.shownAll Ds) := by simp [PyData.shownAll, sumL]
    simp only [szL]
    omega
theorem toDD_sh : ∀ v : List (AV × AV), shD v = true → ∃ D, toDD v = some D ∧ PyData.showableKv D = true ∧ sumL (PyData.shownKv D) ≤ szD v ∧ PyData.depthKv D ≤ depD v
  | [], _ => ⟨[], rfl, rfl, Nat.le_refl _, Nat.le_refl _⟩
  | (x, y) :: xs, h => by
    simp only [shD, Bool.and_eq_true] at h
    obtain ⟨D, e, h1, h2, h3⟩ := toD_sh x h.1.1
    obtain ⟨C, f, g1, g2, g3⟩ := toD_sh y h.1.2
    obtain ⟨Ds, e', h1', h2', h3'⟩ := toDD_sh xs h.2
    refine ⟨(D, C) :: Ds, by simp [toDD, e, f, e'], by simp [PyData.showableKv, h1, g1, h1'], ?_, by simp only [PyData.depthKv, depD]; omega⟩
    have : sumL (PyData.shownKv ((D, C) :: Ds)) = D.shown.length + 2 + C.shown.length + 2 + sumL (PyData.shownKv Ds) := by
      have z : (Str.ofString ": ").length = 2 := rfl
      have z2 : (D.shown ++ (": " : Str) ++ C.shown).length = D.shown.length + 2 + C.shown.length := by rw [len_app, len_app]; exact congrArg (fun q => D.shown.length + q + C.shown.length) z
      simp only [PyData.shownKv, sumL, List.map_cons, List.sum_cons]
      omega
    simp only [szD]
    omega
end

def Fit (c d : Nat) (v : AV) : Prop := sh v = true ∧ sz v ≤ c ∧ dep v ≤ d
theorem Fit.rep {c d : Nat} {v : AV} (h : Fit c d v) (hc : c ≤ 16777216) (hd : d ≤ 150) : ∃ D, toD v = some D ∧ repOk D = true := by
  obtain ⟨D, e, h1, h2, h3⟩ := toD_sh v h.1
  refine ⟨D, e, ?_⟩
  have := h.2.1
  have := h.2.2
  simp only [repOk, h1, Bool.true_and, Bool.and_eq_true, decide_eq_true_eq]
  omega
theorem Fit.mono {c d c' d' : Nat} {v : AV} (h : Fit c d v) (h1 : c ≤ c') (h2 : d ≤ d') : Fit c' d' v := ⟨h.1, by have := h.2.1; omega, by have := h.2.2; omega⟩
mutual
theorem sh_pure : ∀ v : AV, sh v = true → pure? v = true
  | .non, _ => rfl
  | .bl _, _ => rfl
  | .int _, _ => rfl
  | .str _, _ => rfl
  | .tup xs, h => by simp only [sh] at h; simp only [pure?]; exact shL_pure xs h
  | .lst xs, h => by simp only [sh] at h; simp only [pure?]; exact shL_pure xs h
  | .dct xs, h => by simp only [sh] at h; simp only [pure?]; exact shD_pure xs h
  | .loc _, h => by simp [sh] at h
  | .obj _, h => by simp [sh] at h
  | .scr _, h => by simp [sh] at h
  | .ty _, h => by simp [sh] at h
theorem shL_pure : ∀ v : List AV, shL v = true → pureL v = true
  | [], _ => rfl
  | x :: xs, h => by
    simp only [shL, Bool.and_eq_true] at h
    simp only [pureL, Bool.and_eq_true]
    exact ⟨sh_pure x h.1, shL_pure xs h.2⟩
theorem shD_pure : ∀ v : List (AV × AV), shD v = true → pureD v = true
  | [], _ => rfl
  | (x, y) :: xs, h => by
    simp only [shD, Bool.and_eq_true] at h
    simp only [pureD, Bool.and_eq_true]
    exact ⟨⟨sh_pure x h.1.1, sh_pure y h.1.2⟩, shD_pure xs h.2⟩
end
theorem Fit.pure {c d : Nat} {v : AV} (h : Fit c d v) : pure? v = true := sh_pure v h.1

def FitL (c d : Nat) (vs : List AV) : Prop := shL vs = true ∧ szL vs ≤ c ∧ depL vs ≤ d
theorem FitL.nil : FitL 0 0 [] := ⟨rfl, Nat.le_refl _, Nat.le_refl _⟩
theorem FitL.cons {c c' d d' : Nat} {v : AV} {vs : List AV} (h : Fit c d v) (g : FitL c' d' vs) : FitL (c + 2 + c') (max d d') (v :: vs) := by
  obtain ⟨h1, h2, h3⟩ := h
  obtain ⟨g1, g2, g3⟩ := g
  exact ⟨by simp [shL, h1, g1], by simp only [szL]; omega, by simp only [depL]; omega⟩
theorem FitL.mono {c d c' d' : Nat} {v : List AV} (h : FitL c d v) (h1 : c ≤ c') (h2 : d ≤ d') : FitL c' d' v := ⟨h.1, by have := h.2.1; omega, by have := h.2.2; omega⟩
theorem shL_app : ∀ xs ys : List AV, shL (xs ++ ys) = (shL xs && shL ys)
  | [], _ => rfl
  | x :: xs, ys => by rw [List.cons_append, shL, shL, shL_app xs ys, Bool.and_assoc]
theorem szL_app : ∀ xs ys : List AV, szL (xs ++ ys) = szL xs + szL ys
  | [], _ => by simp [szL]
  | x :: xs, ys => by rw [List.cons_append, szL, szL, szL_app xs ys]; omega
theorem depL_app : ∀ xs ys : List AV, depL (xs ++ ys) = max (depL xs) (depL ys)
  | [], _ => by simp [depL]
  | x :: xs, ys => by rw [List.cons_append, depL, depL, depL_app xs ys]; omega
theorem FitL.append {c c' d d' : Nat} {vs us : List AV} (h : FitL c d vs) (g : FitL c' d' us) : FitL (c + c') (max d d') (vs ++ us) := by
  obtain ⟨h1, h2, h3⟩ := h
  obtain ⟨g1, g2, g3⟩ := g
  exact ⟨by rw [shL_app, h1, g1]; rfl, by rw [szL_app]; omega, by rw [depL_app]; omega⟩
theorem FitL.left {c d : Nat} {vs us : List AV} (h : FitL c d (vs ++ us)) : FitL (szL vs) d vs := by
  obtain ⟨h1, h2, h3⟩ := h
  rw [shL_app, Bool.and_eq_true] at h1
  rw [depL_app] at h3
  exact ⟨h1.1, Nat.le_refl _, by omega⟩
theorem FitL.right {c d : Nat} {vs us : List AV} (h : FitL c d (vs ++ us)) : FitL (szL us) d us := by
  obtain ⟨h1, h2, h3⟩ := h
  rw [shL_app, Bool.and_eq_true] at h1
  rw [depL_app] at h3
  exact ⟨h1.2, Nat.le_refl _, by omega⟩
theorem FitL.tup {c d : Nat} {vs : List AV} (h : FitL c d vs) : Fit (3 + c) (d + 1) (.tup vs) := ⟨by simpa [sh] using h.1, by simp only [sz]; have := h.2.1; omega, by simp only [dep]; have := h.2.2; omega⟩
theorem FitL.lst {c d : Nat} {vs : List AV} (h : FitL c d vs) : Fit (3 + c) (d + 1) (.lst vs) := ⟨by simpa [sh] using h.1, by simp only [sz]; have := h.2.1; omega, by simp only [dep]; have := h.2.2; omega⟩
theorem Fit.of_tup {c d : Nat} {vs : List AV} (h : Fit c d (.tup vs)) : FitL (c - 3) (d - 1) vs := ⟨by simpa [sh] using h.1, by have := h.2.1; simp only [sz] at this; omega, by have := h.2.2; simp only [dep] at this; omega⟩
theorem Fit.non : Fit 4 0 .non := ⟨rfl, Nat.le_refl _, Nat.le_refl _⟩
theorem Fit.bl (b : Bool) : Fit 5 0 (.bl b) := ⟨rfl, Nat.le_refl _, Nat.le_refl _⟩
theorem FitL.mem {c d : Nat} {v : AV} : ∀ {vs : List AV}, FitL c d vs → v ∈ vs → Fit c d v
  | x :: xs, h, m => by
    obtain ⟨h1, h2, h3⟩ := h
    simp only [shL, Bool.and_eq_true] at h1
    simp only [szL] at h2
    simp only [depL] at h3
    rcases List.mem_cons.mp m with e | m
    · subst e
      exact ⟨h1.1, by omega, by omega⟩
    · exact FitL.mem (vs := xs) ⟨h1.2, by omega, by omega⟩ m
theorem FitL.of_all {c d n : Nat} : ∀ {vs : List AV}, (∀ v ∈ vs, Fit c d v) → vs.length ≤ n → FitL (n * (c + 2)) d vs
  | [], _, _ => ⟨rfl, by simp [szL], by simp [depL]⟩
  | x :: xs, h, l => by
    have hx := h x (List.mem_cons_self ..)
    have := FitL.of_all (n := n - 1) (fun v hv => h v (List.mem_cons_of_mem _ hv)) (by simp at l; omega) (vs := xs)
    have z := FitL.cons hx this
    have e : c + 2 + (n - 1) * (c + 2) = n * (c + 2) := by
      have : n ≠ 0 := by simp at l; omega
      obtain ⟨m, rfl⟩ := Nat.exists_eq_succ_of_ne_zero this
      simp only [Nat.succ_sub_one, Nat.succ_mul]
      omega
    rw [e] at z
    exact z.mono (Nat.le_refl _) (by omega)
mutual

def im (b : Nat) : AV → Bool
  | .int i => decide (i.natAbs ≤ b)
  | .tup xs => imL b xs
  | .lst xs => imL b xs
  | .dct kvs => imD b kvs
  | _ => true
def imL (b : Nat) : List AV → Bool
  | [] => true
  | x :: xs => im b x && imL b xs
def imD (b : Nat) : List (AV × AV) → Bool
  | [] => true
  | (x, y) :: xs => im b x && im b y && imD b xs
end
theorem imL_all (b : Nat) : ∀ xs : List AV, imL b xs = xs.all (im b)
  | [] => rfl
  | x :: xs => by rw [List.all_cons, ← imL_all b xs]; rfl
theorem imL_of {b : Nat} {xs : List AV} (h : ∀ x ∈ xs, im b x = true) : imL b xs = true := by
  rw [imL_all]
  exact List.all_eq_true.mpr h
theorem imL_mem {b : Nat} {xs : List AV} {x : AV} (h : imL b xs = true) (m : x ∈ xs) : im b x = true := by
  rw [imL_all] at h
  exact List.all_eq_true.mp h x m
mutual
theorem im_mono {b c : Nat} (l : b ≤ c) : ∀ v : AV, im b v = true → im c v = true
  | .int i, h => by simp only [im, decide_eq_true_eq] at h ⊢; omega
  | .tup xs, h => by simp only [im] at h ⊢; exact imL_mono l xs h
  | .lst xs, h => by simp only [im] at h ⊢; exact imL_mono l xs h
  | .dct xs, h => by simp only [im] at h ⊢; exact imD_mono l xs h
  | .non, _ => rfl
  | .bl _, _ => rfl
  | .str _, _ => rfl
  | .loc _, _ => rfl
  | .obj _, _ => rfl
  | .scr _, _ => rfl
  | .ty _, _ => rfl
theorem imL_mono {b c : Nat} (l : b ≤ c) : ∀ v : List AV, imL b v = true → imL c v = true
  | [], _ => rfl
  | x :: xs, h => by
    simp only [imL, Bool.and_eq_true] at h ⊢
    exact ⟨im_mono l x h.1, imL_mono l xs h.2⟩
theorem imD_mono {b c : Nat} (l : b ≤ c) : ∀ v : List (AV × AV), imD b v = true → imD c v = true
  | [], _ => rfl
  | (x, y) :: xs, h => by
    simp only [imD, Bool.and_eq_true] at h ⊢
    exact ⟨⟨im_mono l x h.1.1, im_mono l y h.1.2⟩, imD_mono l xs h.2⟩
end

theorem fit_int {i : Int} (h : i.natAbs < 10 ^ 100) : Fit 102 0 (.int i) := by
  have hl : i.natAbs.log2 < 1920 := by
    by_cases z : i.natAbs = 0
    · rw [z]; decide
    · refine (Nat.log2_lt z).mpr (Nat.lt_of_lt_of_le h ?_)
      exact Nat.le_trans (by decide : 10 ^ 100 ≤ 2 ^ 400) (Nat.pow_le_pow_right (by decide) (by decide))
  refine ⟨by simpa [sh] using hl, ?_, Nat.le_refl _⟩
  show (Str.ofString (toString i)).length ≤ 102
  by_cases z : i < 0
  · rw [PyProof.Rows.len_text_neg z]
    have := PyProof.Rows.toString_length_le (v := 0 - i) (by omega) (by decide : 0 < 100) (by omega)
    omega
  · have := PyProof.Rows.toString_length_le (v := i) (by omega) (by decide : 0 < 100) (by omega)
    omega
theorem cps_small (z : String) : ∀ c ∈ (Str.ofString z).cps.toList, c < 16 ^ 8 := by
  rw [Str.ofString_eq_toList]
  intro c hc
  simp only [List.mem_map] at hc
  obtain ⟨d, _, rfl⟩ := hc
  have h := d.valid
  have : d.toNat < 1114112 := by
    rcases h with h | h
    · exact Nat.lt_trans h (by decide)
    · exact h.2
  exact Nat.lt_trans this (by decide)

theorem fit_text {i : Int} (h : i.natAbs < 10 ^ 100) : Fit 1022 0 (.str (toString i : String)) := by
  refine ⟨rfl, ?_, Nat.le_refl _⟩
  show (reprText (Str.ofString (toString i))).length ≤ 1022
  have h1 := StrLaws.reprText_len _ (cps_small (toString i))
  have h2 : (Str.ofString (toString i)).length ≤ 102 := (fit_int h).2.1
  omega
end Lr

namespace Lr
open PySem PySem.Spec L2
@[reducible] def i19_parts_of : Nat := 19
@[reducible] def i20_instructions : Nat := 20
@[reducible] def i29_check_number : Nat := 29
@[reducible] def i30_cut_from : Nat := 30
@[reducible] def i41_left_out : Nat := 41
@[reducible] def i13_law_hand : Nat := 13
@[reducible] def i2_law_take : Nat := 2
@[reducible] def i3_law_of : Nat := 3
@[reducible] def i7_law_names : Nat := 7
@[reducible] def i4_law_instruction : Nat := 4
@[reducible] def i5_law_tree : Nat := 5
@[reducible] def i6_law_nodes : Nat := 6
@[reducible] def i15_law_program : Nat := 15
@[reducible] def i14_law_size : Nat := 14
@[reducible] def i23_law_listed : Nat := 23
@[reducible] def i8_law_odd : Nat := 8
@[reducible] def i25_law_some_programs : Nat := 25
@[reducible] def i436_law_raised : Nat := 436
@[reducible] def i46_law_is_number : Nat := 46
@[reducible] def i31_law_cut : Nat := 31
@[reducible] def i448_law : Nat := 448
@[reducible] def i21_words_of : Nat := 21
@[reducible] def i27_names_of : Nat := 27
@[reducible] def i22_is_straight : Nat := 22
@[reducible] def i28_law_words : Nat := 28
@[reducible] def i26_law_handed : Nat := 26
@[reducible] def i24_law_is_plain : Nat := 24
@[reducible] def i419_law : Nat := 419
def m19_parts_of (T : Nat → Fn) : AS := (sSeq (sIf (tB1 (eOp gEq (eOp gIx (eVar 0) (eC (.int 0))) (eC (.str "loop")))) (sRet (eSl (eVar 0) (oSome (eC (.int 1))) oNone)) sNil) (sRet (eIf (tB1 (eOp gIn (eOp gIx (eVar 0) (eC (.int 0))) (eTup (aCons (eC (.str "seq")) (aCons (eC (.str "branch")) aNil))))) (eOp gIx (eVar 0) (eC (.int 1))) (eTup aNil))))
def m20_instructions (T : Nat → Fn) : AS := (sSeq (sIf (tB1 (eOp gNotIn (eOp gIx (eVar 0) (eC (.int 0))) (eTup (aCons (eC (.str "seq")) (aCons (eC (.str "branch")) (aCons (eC (.str "loop")) aNil)))))) (sRet (eTup (aCons (eVar 0) aNil))) sNil) (sSeq (sSet 1 (eNew (aLst aNil))) (sSeq (sFor (iAny (eCall (T i19_parts_of) (aCons (eVar 0) aNil))) (gNm 2) (sExpr (eExt (eVar 1) (eCall (T i20_instructions) (aCons (eVar 2) aNil))))) (sRet (eCB gTuple (aCons (eVar 1) aNil))))))
def m29_check_number (T : Nat → Fn) : AS := (sIf (tOrr (tNt (tTr (eCB gIsi (aCons (eVar 1) (aCons (eC (.ty "int")) aNil))))) (tOrr (tTr (eCB gIsi (aCons (eVar 1) (aCons (eC (.ty "bool")) aNil)))) (tNt (tB1 (eChain gLe gLt (eC (.int 0)) (eVar 1) (eCB gLen (aCons (eCall (T i20_instructions) (aCons (eVar 0) aNil)) aNil))))))) (sRaise 1 (aCons (eVar 1) aNil)) sNil)
def m30_cut_from (T : Nat → Fn) : AS := (sSeq (sSet 2 (eCB gLen (aCons (eCall (T i20_instructions) (aCons (eVar 0) aNil)) aNil))) (sSeq (sIf (tNt (tB1 (eChain gLe gLt (eC (.int 0)) (eVar 1) (eVar 2)))) (sRet (eVar 0)) sNil) (sSeq (sIf (tB1 (eOp gNotIn (eOp gIx (eVar 0) (eC (.int 0))) (eTup (aCons (eC (.str "seq")) (aCons (eC (.str "branch")) (aCons (eC (.str "loop")) aNil)))))) (sRet (eC (.tup [(.str "seq"), (.tup [])]))) sNil) (sSeq (sIf (tB1 (eOp gEq (eOp gIx (eVar 0) (eC (.int 0))) (eC (.str "loop")))) (sRet (eTup (aCons (eC (.str "loop")) (aCons (eCall (T i30_cut_from) (aCons (eOp gIx (eVar 0) (eC (.int 1))) (aCons (eVar 1) aNil))) aNil)))) sNil) (sSeq (sSet 3 (eNew (aLst aNil))) (sSeq (sFor (iAny (eOp gIx (eVar 0) (eC (.int 1)))) (gNm 4) (sSeq (sExpr (eApp2 (eVar 3) (eCall (T i30_cut_from) (aCons (eVar 4) (aCons (eVar 1) aNil))))) (sAug 1 gISub (eCB gLen (aCons (eCall (T i20_instructions) (aCons (eVar 4) aNil)) aNil))))) (sRet (eTup (aCons (eOp gIx (eVar 0) (eC (.int 0))) (aCons (eCB gTuple (aCons (eVar 3) aNil)) aNil))))))))))
def m41_left_out (T : Nat → Fn) : AS := (sSeq (sExpr (eCall (T i29_check_number) (aCons (eVar 0) (aCons (eVar 1) aNil)))) (sRet (eCall (T i30_cut_from) (aCons (eVar 0) (aCons (eVar 1) aNil)))))
def m13_law_hand (T : Nat → Fn) : AS := (sSeq (sSet 2 (eIf (tB1 (eOp gLt (eVar 1) (eCB gLen (aCons (eVar 0) aNil)))) (eOp gIx (eVar 0) (eVar 1)) (eC (.int 0)))) (sSeq (sSet 3 (eOp gMul (eOp gMod (eCB gAbs (aCons (eVar 2) aNil)) (eOp gMul (eOp gMul (eOp gPow (eC (.int 10)) (eC (.int 60))) (eOp gPow (eC (.int 10)) (eC (.int 60)))) (eOp gPow (eC (.int 10)) (eC (.int 60))))) (eCB gInt (aCons (eOp gGe (eCB gAbs (aCons (eVar 2) aNil)) (eOp gPow (eC (.int 10)) (eC (.int 18)))) aNil)))) (sRet (eNew (aLst (aCons (eVar 3) (aCons (eOp gMod (eOp gMul (eOp gAdd (eOp gAdd (eOp gMod (eVar 2) (eC (.int 2147483629))) (eOp gMul (eC (.int 7919)) (eVar 1))) (eC (.int 13))) (eC (.int 48271))) (eC (.int 2147483647))) (aCons (eC (.int 0)) aNil))))))))
def m2_law_take (T : Nat → Fn) : AS := (sSeq (sIf (tB1 (eOp gGt (eOp gIx (eVar 0) (eC (.int 0))) (eC (.int 0)))) (sSeq (sSet 2 (eOp gMod (eOp gIx (eVar 0) (eC (.int 0))) (eVar 1))) (sSeq (sSub (eVar 0) (eC (.int 0)) (eOp gDiv (eOp gIx (eVar 0) (eC (.int 0))) (eVar 1))) (sRet (eVar 2)))) sNil) (sSeq (sSub (eVar 0) (eC (.int 2)) (eOp gAdd (eOp gIx (eVar 0) (eC (.int 2))) (eC (.int 1)))) (sSeq (sSet 3 (eOp gIx (eDat (aLst (aCons (eC (.int 2147483647)) (aCons (eC (.int 2147483629)) (aCons (eC (.int 2147483587)) (aCons (eC (.int 2147483579)) (aCons (eC (.int 2147483563)) aNil))))))) (eOp gMod (eOp gIx (eVar 0) (eC (.int 2))) (eC (.int 5))))) (sSeq (sSet 4 (eOp gMod (eOp gPow (eOp gAdd (eOp gIx (eVar 0) (eC (.int 1))) (eOp gMul (eC (.int 7919)) (eOp gIx (eVar 0) (eC (.int 2))))) (eC (.int 3))) (eVar 3))) (sRet (eOp gMod (eOp gDiv (eOp gMod (eOp gMul (eVar 4) (eOp gAdd (eOp gMod (eVar 4) (eC (.int 1009))) (eOp gIx (eVar 0) (eC (.int 2))))) (eVar 3)) (eC (.int 11))) (eVar 1)))))))
def m3_law_of (T : Nat → Fn) : AS := (sRet (eOp gIx (eVar 1) (eCall (T i2_law_take) (aCons (eVar 0) (aCons (eCB gLen (aCons (eVar 1) aNil)) aNil)))))
def m7_law_names (T : Nat → Fn) : AS := (sSeq (sSet 2 (eNew (aLst (aCons (eC (.str "a")) (aCons (eC (.str "b")) (aCons (eC (.str "copytx")) (aCons (eC (.str "drop")) (aCons (eC (.str "fq")) (aCons (eC (.str "hijkmuvy")) (aCons (eC (.str "longname")) (aCons (eC (.str "new")) (aCons (eC (.str "seq")) (aCons (eC (.str "zz")) aNil))))))))))))) (sSeq (sWhile (tB1 (eOp gGt (eCB gLen (aCons (eVar 2) aNil)) (eVar 1))) (sExpr (ePop1 (eVar 2) (eCall (T i2_law_take) (aCons (eVar 0) (aCons (eCB gLen (aCons (eVar 2) aNil)) aNil)))))) (sRet (eVar 2))))
def m4_law_instruction (T : Nat → Fn) : AS := (sSeq (sPar (aCons (eCall (T i2_law_take) (aCons (eVar 0) (aCons (eC (.int 10)) aNil))) (aCons (eCall (T i3_law_of) (aCons (eVar 0) (aCons (eVar 1) aNil))) aNil)) (gN1 (gNm 2) (gN1 (gNm 3) gN0))) (sSeq (sIf (tB1 (eOp gLt (eVar 2) (eC (.int 2)))) (sRet (eTup (aCons (eC (.str "new")) (aCons (eVar 3) aNil)))) sNil) (sSeq (sIf (tB1 (eOp gLt (eVar 2) (eC (.int 6)))) (sRet (eTup (aCons (eC (.str "copy")) (aCons (eCall (T i3_law_of) (aCons (eVar 0) (aCons (eVar 1) aNil))) (aCons (eVar 3) aNil))))) sNil) (sRet (eIf (tB1 (eOp gLt (eVar 2) (eC (.int 8)))) (eTup (aCons (eC (.str "use")) (aCons (eVar 3) aNil))) (eTup (aCons (eC (.str "drop")) (aCons (eVar 3) aNil))))))))
def m5_law_tree (T : Nat → Fn) : AS := (sSeq (sSet 4 (eCall (T i2_law_take) (aCons (eVar 0) (aCons (eC (.int 8)) aNil)))) (sSeq (sIf (tOrr (tB1 (eOp gLt (eVar 2) (eC (.int 2)))) (tOrr (tB1 (eOp gLt (eVar 3) (eC (.int 2)))) (tB1 (eOp gEq (eVar 4) (eC (.int 0)))))) (sRet (eCall (T i4_law_instruction) (aCons (eVar 0) (aCons (eVar 1) aNil)))) sNil) (sSeq (sIf (tB1 (eOp gEq (eVar 4) (eC (.int 1)))) (sRet (eTup (aCons (eC (.str "loop")) (aCons (eCall (T i5_law_tree) (aCons (eVar 0) (aCons (eVar 1) (aCons (eVar 2) (aCons (eOp gSub (eVar 3) (eC (.int 1))) aNil))))) aNil)))) sNil) (sSeq (sSet 5 (eCB gMin (aCons (eVar 2) (aCons (eCall (T i3_law_of) (aCons (eVar 0) (aCons (eDat (aLst (aCons (eC (.int 2)) (aCons (eC (.int 2)) (aCons (eC (.int 3)) (aCons (eC (.int 3)) (aCons (eC (.int 4)) (aCons (eC (.int 5)) (aCons (eIf (tB1 (eOp gGt (eVar 4) (eC (.int 3)))) (eC (.int 18)) (eC (.int 5))) aNil))))))))) aNil))) aNil)))) (sSeq (sSet 6 (eCB gTuple (aCons (eDat (aLc (iRng (aCons (eVar 5) aNil)) [8] (gNm 8) tTrue (eCall (T i5_law_tree) (aCons (eVar 0) (aCons (eVar 1) (aCons (eOp gDiv (eVar 2) (eVar 5)) (aCons (eOp gSub (eVar 3) (eC (.int 1))) aNil))))))) aNil))) (sSeq (sIf (tB1 (eOp gLt (eVar 4) (eC (.int 4)))) (sSeq (sSet 7 (eOp gMul (eTup (aCons (eTup (aCons (eC (.str "seq")) (aCons (eTup aNil) aNil))) aNil)) (eCB gInt (aCons (eOp gEq (eCall (T i2_law_take) (aCons (eVar 0) (aCons (eC (.int 3)) aNil))) (eC (.int 0))) aNil)))) (sRet (eTup (aCons (eC (.str "branch")) (aCons (eOp gAdd (eVar 6) (eVar 7)) aNil))))) sNil) (sRet (eTup (aCons (eC (.str "seq")) (aCons (eVar 6) aNil))))))))))
def m6_law_nodes (T : Nat → Fn) : AS := (sSeq (sIf (tB1 (eOp gEq (eOp gIx (eVar 0) (eC (.int 0))) (eC (.str "loop")))) (sRet (eOp gAdd (eC (.int 1)) (eCall (T i6_law_nodes) (aCons (eOp gIx (eVar 0) (eC (.int 1))) aNil)))) sNil) (sSeq (sIf (tB1 (eOp gIn (eOp gIx (eVar 0) (eC (.int 0))) (eTup (aCons (eC (.str "seq")) (aCons (eC (.str "branch")) aNil))))) (sRet (eOp gAdd (eC (.int 1)) (eCB gSum (aCons (eDat (aLc (iAny (eOp gIx (eVar 0) (eC (.int 1)))) [1] (gNm 1) tTrue (eCall (T i6_law_nodes) (aCons (eVar 1) aNil)))) aNil)))) sNil) (sRet (eC (.int 1)))))
def m15_law_program (T : Nat → Fn) : AS := (sSeq (sSet 2 (eCall (T i7_law_names) (aCons (eVar 0) (aCons (eCall (T i3_law_of) (aCons (eVar 0) (aCons (eDat (aLst (aCons (eC (.int 1)) (aCons (eC (.int 2)) (aCons (eC (.int 2)) (aCons (eC (.int 3)) (aCons (eC (.int 3)) (aCons (eC (.int 4)) (aCons (eC (.int 5)) (aCons (eC (.int 6)) (aCons (eC (.int 7)) (aCons (eC (.int 8)) aNil)))))))))))) aNil))) aNil)))) (sSeq (sSet 3 (eCall (T i5_law_tree) (aCons (eVar 0) (aCons (eVar 2) (aCons (eCB gMax (aCons (eC (.int 1)) (aCons (eOp gSub (eVar 1) (eC (.int 4))) aNil))) (aCons (eCall (T i3_law_of) (aCons (eVar 0) (aCons (eDat (aLst (aCons (eC (.int 3)) (aCons (eC (.int 5)) (aCons (eC (.int 5)) (aCons (eC (.int 6)) aNil)))))) aNil))) aNil)))))) (sSeq (sSet 4 (eTup (aCons (eTup (aCons (eC (.str "new")) (aCons (eCall (T i3_law_of) (aCons (eVar 0) (aCons (eVar 2) aNil))) aNil))) (aCons (eTup (aCons (eC (.str "copy")) (aCons (eCall (T i3_law_of) (aCons (eVar 0) (aCons (eVar 2) aNil))) (aCons (eCall (T i3_law_of) (aCons (eVar 0) (aCons (eVar 2) aNil))) aNil)))) aNil)))) (sSeq (sSet 5 (eCB gTuple (aCons (eDat (aLc (iRng (aCons (eC (.int 2)) aNil)) [7] (gNm 7) tTrue (eTup (aCons (eC (.str "use")) (aCons (eCall (T i3_law_of) (aCons (eVar 0) (aCons (eVar 2) aNil))) aNil))))) aNil))) (sSeq (sSet 6 (eTup (aCons (eC (.str "seq")) (aCons (eOp gAdd (eOp gAdd (eSl (eVar 4) oNone (oSome (eOp gAdd (eC (.int 1)) (eCall (T i2_law_take) (aCons (eVar 0) (aCons (eC (.int 2)) aNil)))))) (eTup (aCons (eVar 3) aNil))) (eVar 5)) aNil)))) (sSeq (sIf (tB1 (eOp gGt (eCall (T i6_law_nodes) (aCons (eVar 6) aNil)) (eC (.int 60)))) (sSet 6 (eTup (aCons (eC (.str "seq")) (aCons (eOp gAdd (eVar 4) (eVar 5)) aNil)))) sNil) (sRet (eIf (tOrr (tB1 (eOp gGt (eCall (T i2_law_take) (aCons (eVar 0) (aCons (eC (.int 9)) aNil))) (eC (.int 0)))) (tB1 (eOp gGt (eCall (T i6_law_nodes) (aCons (eVar 3) aNil)) (eC (.int 60))))) (eVar 6) (eVar 3)))))))))
def m14_law_size (T : Nat → Fn) : AS := (sRet (eCall (T i3_law_of) (aCons (eVar 0) (aCons (eDat (aLst (aCons (eC (.int 4)) (aCons (eC (.int 6)) (aCons (eC (.int 8)) (aCons (eC (.int 10)) (aCons (eC (.int 12)) (aCons (eC (.int 12)) (aCons (eC (.int 16)) (aCons (eC (.int 20)) (aCons (eC (.int 30)) (aCons (eC (.int 40)) aNil)))))))))))) aNil))))
def m23_law_listed (T : Nat → Fn) : AS := (sSeq (sIf (tB1 (eOp gEq (eOp gIx (eVar 0) (eC (.int 0))) (eC (.str "loop")))) (sRet (eCall (T i23_law_listed) (aCons (eOp gIx (eVar 0) (eC (.int 1))) aNil))) sNil) (sSeq (sIf (tB1 (eOp gIn (eOp gIx (eVar 0) (eC (.int 0))) (eTup (aCons (eC (.str "seq")) (aCons (eC (.str "branch")) aNil))))) (sSeq (sSet 1 (eDat (aLst aNil))) (sSeq (sFor (iAny (eOp gIx (eVar 0) (eC (.int 1)))) (gNm 2) (sSet 1 (eDat (aCat (eVar 1) (eCall (T i23_law_listed) (aCons (eVar 2) aNil)))))) (sRet (eVar 1)))) sNil) (sRet (eDat (aLst (aCons (eVar 0) aNil))))))
def m8_law_odd (T : Nat → Fn) : AS := (sSeq (sSet 1 (eDat (aLst (aCons (eC .non) (aCons (eC (.bl true)) (aCons (eC (.bl false)) (aCons (eC (.int 0)) (aCons (eC (.int 1)) (aCons (eNeg (eC (.int 1))) (aCons (eC (.int 40)) (aCons (eOp gPow (eC (.int 10)) (eC (.int 30))) (aCons (eC (.str "")) (aCons (eC (.str "a")) (aCons (eC (.str "A")) (aCons (eC (.str "longname")) (aCons (eC (.str "toolongname")) (aCons (eC (.str "a1")) (aCons (eC (.str "new a")) (aCons (eC (.str "seq()")) aNil))))))))))))))))))) (sSeq (sSet 1 (eDat (aCat (eVar 1) (eDat (aLst (aCons (eTup aNil) (aCons (eDat (aLst aNil)) (aCons (eDic pNil) (aCons (eTup (aCons (eC (.str "a")) aNil)) (aCons (eTup (aCons (eC (.str "new")) aNil)) (aCons (eTup (aCons (eC (.str "seq")) aNil)) (aCons (eTup (aCons (eC (.str "new")) (aCons (eC (.str "a")) aNil))) (aCons (eDat (aLst (aCons (eC (.str "new")) (aCons (eC (.str "a")) aNil)))) (aCons (eDic (pCons (eC (.str "a")) (eTup aNil) pNil)) aNil)))))))))))))) (sSeq (sSet 1 (eDat (aCat (eVar 1) (eDat (aLst (aCons (eTup (aCons (eC (.str "seq")) (aCons (eTup aNil) aNil))) (aCons (eTup (aCons (eTup aNil) aNil)) (aCons (eTup (aCons (eC (.int 0)) aNil)) aNil)))))))) (sSeq (sSet 2 (eCall (T i3_law_of) (aCons (eVar 0) (aCons (eVar 1) aNil)))) (sSeq (sFor (iRng (aCons (eCall (T i3_law_of) (aCons (eVar 0) (aCons (eDat (aLst (aCons (eC (.int 0)) (aCons (eC (.int 0)) (aCons (eC (.int 0)) (aCons (eC (.int 1)) (aCons (eC (.int 3)) (aCons (eC (.int 18)) aNil)))))))) aNil))) aNil)) (gNm 3) (sSet 2 (eCall (T i3_law_of) (aCons (eVar 0) (aCons (eDat (aLst (aCons (eTup (aCons (eVar 2) aNil)) (aCons (eDat (aLst (aCons (eVar 2) aNil))) (aCons (eDic (pCons (eC (.str "a")) (eVar 2) pNil)) aNil))))) aNil))))) (sRet (eVar 2)))))))
def m25_law_some_programs (T : Nat → Fn) : AS := (sSeq (sSet 2 (eNew (aLc (iRng (aCons (eVar 1) aNil)) [5] (gNm 5) tTrue (eCall (T i15_law_program) (aCons (eVar 0) (aCons (eCall (T i14_law_size) (aCons (eVar 0) aNil)) aNil)))))) (sSeq (sExpr (eApp2 (eVar 2) (eCall (T i4_law_instruction) (aCons (eVar 0) (aCons (eCall (T i7_law_names) (aCons (eVar 0) (aCons (eC (.int 2)) aNil))) aNil))))) (sSeq (sSet 3 (eTup (aCons (eC (.str "seq")) (aCons (eTup aNil) aNil)))) (sSeq (sSet 4 (eDat (aLst (aCons (eVar 3) (aCons (eTup (aCons (eC (.str "loop")) (aCons (eVar 3) aNil))) (aCons (eTup (aCons (eC (.str "seq")) (aCons (eTup (aCons (eVar 3) (aCons (eVar 3) aNil))) aNil))) (aCons (eTup (aCons (eC (.str "branch")) (aCons (eTup (aCons (eVar 3) (aCons (eTup (aCons (eC (.str "loop")) (aCons (eTup (aCons (eC (.str "drop")) (aCons (eC (.str "a")) aNil))) aNil))) aNil))) aNil))) aNil))))))) (sRet (eDat (aCat (eVar 2) (eDat (aLst (aCons (eCall (T i3_law_of) (aCons (eVar 0) (aCons (eVar 4) aNil))) aNil))))))))))
def mth436_law_raised (T : Nat → Fn) (th : Store → Res AV) : AS := (thB 1 2 2 0 4 1 (sSeq (sIf (tB1 (eOp gIs (eVar 1) (eC .non))) (sRet (eTup (aCons (eC (.str "told")) (aCons (eVar 2) aNil)))) sNil) (sSeq (sSet 3 (eNew (aLst (aCons (eCB gIsiX (aCons (eVar 1) (aCons (eC (.obj 1)) aNil))) (aCons (eCB gIsiX (aCons (eVar 1) (aCons (eC (.obj 3)) aNil))) (aCons (eCB gIsiX (aCons (eVar 1) (aCons (eC (.obj 4)) aNil))) aNil)))))) (sSeq (sSet 3 (eNew (aCat (eVar 3) (eDat (aLst (aCons (eCB gIsiX (aCons (eVar 1) (aCons (eC (.obj 5)) aNil))) (aCons (eCB gIsiX (aCons (eVar 1) (aCons (eC (.obj 6)) aNil))) (aCons (eCB gIsiX (aCons (eVar 1) (aCons (eC (.obj 2)) aNil))) aNil)))))))) (sSeq (sExpr (eApp2 (eVar 3) (eCB gIsiX (aCons (eVar 1) (aCons (eC (.obj 11)) aNil))))) (sSeq (sIf (tOrr (tB1 (eOp gNe (eCntB (eVar 3) (eC (.bl true))) (eC (.int 1)))) (tNt (tTr (eCB gIsiX (aCons (eVar 1) (aCons (eC (.ty "ValueError")) aNil)))))) (sRet (eTup (aCons (eC (.str "other")) (aCons (eC .non) aNil)))) sNil) (sRet (eTup (aCons (eOp gIx (eDat (aLst (aCons (eC (.str "instruction")) (aCons (eC (.str "run")) (aCons (eC (.str "object")) (aCons (eC (.str "names")) (aCons (eC (.str "unused")) (aCons (eC (.str "many")) (aCons (eC (.str "text")) aNil))))))))) (eIdxB (eVar 3) (eC (.bl true)))) (aCons (eVal (eVar 1)) aNil))))))))) th)
def m46_law_is_number (T : Nat → Fn) : AS := (sRet (eAn (eCB gIsi (aCons (eVar 0) (aCons (eC (.ty "int")) aNil))) (eAn (eNt (eCB gIsi (aCons (eVar 0) (aCons (eC (.ty "bool")) aNil)))) (eChain gLe gLt (eC (.int 0)) (eVar 0) (eVar 1)))))
def m31_law_cut (T : Nat → Fn) : AS := (sSeq (sIf (tB1 (eOp gEq (eOp gIx (eVar 0) (eC (.int 0))) (eC (.str "loop")))) (sSeq (sAsg (eCall (T i31_law_cut) (aCons (eOp gIx (eVar 0) (eC (.int 1))) (aCons (eVar 1) aNil))) (gTp (gN1 (gNm 2) (gN1 (gNm 3) gN0)))) (sRet (eTup (aCons (eTup (aCons (eC (.str "loop")) (aCons (eVar 2) aNil))) (aCons (eVar 3) aNil))))) sNil) (sSeq (sIf (tB1 (eOp gNotIn (eOp gIx (eVar 0) (eC (.int 0))) (eTup (aCons (eC (.str "seq")) (aCons (eC (.str "branch")) aNil))))) (sRet (eTup (aCons (eIf (tB1 (eOp gEq (eVar 1) (eC (.int 0)))) (eTup (aCons (eC (.str "seq")) (aCons (eTup aNil) aNil))) (eVar 0)) (aCons (eC (.int 1)) aNil)))) sNil) (sSeq (sPar (aCons (eNew (aLst aNil)) (aCons (eC (.int 0)) aNil)) (gN1 (gNm 4) (gN1 (gNm 3) gN0))) (sSeq (sFor (iAny (eOp gIx (eVar 0) (eC (.int 1)))) (gNm 5) (sSeq (sAsg (eCall (T i31_law_cut) (aCons (eVar 5) (aCons (eOp gSub (eVar 1) (eVar 3)) aNil))) (gTp (gN1 (gNm 6) (gN1 (gNm 7) gN0)))) (sSeq (sExpr (eApp2 (eVar 4) (eVar 6))) (sSet 3 (eOp gAdd (eVar 3) (eVar 7)))))) (sRet (eTup (aCons (eTup (aCons (eOp gIx (eVar 0) (eC (.int 0))) (aCons (eCB gTuple (aCons (eVar 4) aNil)) aNil))) (aCons (eVar 3) aNil))))))))
noncomputable def m448_law (T : Nat → Fn) : AS := (sSeq (sFor (iRng (aCons (eCB gMax (aCons (eC (.int 1)) (aCons (eCB gMin (aCons (eC (.int 3)) (aCons (eCB gLen (aCons (eVar 0) aNil)) aNil))) aNil))) aNil)) (gNm 1) (sSeq (sSet 2 (eCall (T i13_law_hand) (aCons (eVar 0) (aCons (eVar 1) aNil)))) (sFor (iAny (eCall (T i25_law_some_programs) (aCons (eVar 2) (aCons (eC (.int 5)) aNil)))) (gNm 3) (sSeq (sSet 4 (eCB gLen (aCons (eCall (T i23_law_listed) (aCons (eVar 3) aNil)) aNil))) (sSeq (sSet 5 (eCB gRepr (aCons (eVar 3) aNil))) (sSeq (sSet 6 (eDat (aLRg (eVar 4)))) (sSeq (sIf (tB1 (eOp gGt (eVar 4) (eC (.int 12)))) (sSet 6 (eDat (aCat (eDat (aLst (aCons (eC (.int 0)) (aCons (eOp gSub (eVar 4) (eC (.int 1))) aNil)))) (eDat (aLc (iRng (aCons (eC (.int 8)) aNil)) [9] (gNm 9) tTrue (eCall (T i2_law_take) (aCons (eVar 2) (aCons (eVar 4) aNil)))))))) sNil) (sSeq (sSet 6 (eDat (aCat (eVar 6) (eDat (aLst (aCons (eVar 4) (aCons (eNeg (eC (.int 1))) (aCons (eC (.bl true)) (aCons (eC .non) (aCons (eC (.str "0")) (aCons (eTup (aCons (eC (.int 0)) aNil)) (aCons (eOp gAdd (eVar 4) (eC (.int 5))) aNil)))))))))))) (sSeq (sSet 6 (eDat (aCat (eVar 6) (eDat (aLst (aCons (eCall (T i8_law_odd) (aCons (eVar 2) aNil)) (aCons (eCall (T i8_law_odd) (aCons (eVar 2) aNil)) aNil))))))) (sFor (iAny (eVar 6)) (gNm 7) (sSeq (sSet 8 (eTup (aCons (eC (.str "instruction")) (aCons (eVar 7) aNil)))) (sSeq (sIf (tTr (eCall (T i46_law_is_number) (aCons (eVar 7) (aCons (eVar 4) aNil)))) (sSet 8 (eTup (aCons (eC (.str "told")) (aCons (eOp gIx (eCall (T i31_law_cut) (aCons (eVar 3) (aCons (eVar 7) aNil))) (eC (.int 0))) aNil)))) sNil) (sSeq (sIf (tB1 (eOp gNe (eCB gRepr (aCons (eLam (mth436_law_raised T) 5 (eCall (T i41_left_out) (aCons (eVar 3) (aCons (eVar 7) aNil)))) aNil)) (eCB gRepr (aCons (eVar 8) aNil)))) (sRet (eC (.bl false))) sNil) (sIf (tB1 (eOp gNe (eCB gRepr (aCons (eVar 3) aNil)) (eVar 5))) (sRet (eC (.bl false))) sNil)))))))))))))) (sRet (eC (.bl true))))
def m21_words_of (T : Nat → Fn) : AS := (sSeq (sSet 1 eDNew) (sSeq (sFor (iAny (eVar 0)) (gNm 2) (sExpr (eUpd (eVar 1) (eDKeep (aDc (iAny (eSl (eVar 2) (oSome (eC (.int 1))) oNone)) [3] (gNm 3) tTrue (eVar 3) (eC (.bl true))))))) (sRet (eCB gTuple (aCons (eDat (aCB gSortD (aCons (eVar 1) aNil))) aNil)))))
def m27_names_of (T : Nat → Fn) : AS := (sRet (eCall (T i21_words_of) (aCons (eCall (T i20_instructions) (aCons (eVar 0) aNil)) aNil)))
def m22_is_straight (T : Nat → Fn) : AS := (sRet (eAn (eOp gNotIn (eOp gIx (eVar 0) (eC (.int 0))) (eTup (aCons (eC (.str "branch")) (aCons (eC (.str "loop")) aNil)))) (eCB gAll (aCons (eDat (aLc (iAny (eCall (T i19_parts_of) (aCons (eVar 0) aNil))) [1] (gNm 1) tTrue (eCall (T i22_is_straight) (aCons (eVar 1) aNil)))) aNil))))
def m28_law_words (T : Nat → Fn) : AS := (sSeq (sSet 1 eDNew) (sSeq (sFor (iAny (eCall (T i23_law_listed) (aCons (eVar 0) aNil))) (gNm 2) (sFor (iAny (eSl (eVar 2) (oSome (eC (.int 1))) oNone)) (gNm 3) (sDPutA (eVar 1) (eVar 3) (eC (.bl true))))) (sRet (eDat (aCB gSortD (aCons (eVar 1) aNil))))))
def m26_law_handed (T : Nat → Fn) : AS := (sSeq (sSet 1 (eCall (T i7_law_names) (aCons (eVar 0) (aCons (eCall (T i3_law_of) (aCons (eVar 0) (aCons (eDat (aLst (aCons (eC (.int 2)) (aCons (eC (.int 3)) (aCons (eC (.int 4)) (aCons (eC (.int 5)) (aCons (eC (.int 6)) (aCons (eC (.int 7)) (aCons (eC (.int 8)) aNil))))))))) aNil))) aNil)))) (sSeq (sPar (aCons (eNew (aSl (eVar 1) (oSome (eC (.int 1))) oNone)) (aCons (eNew (aLst (aCons (eTup (aCons (eC (.str "new")) (aCons (eOp gIx (eVar 1) (eC (.int 0))) aNil))) aNil))) (aCons (eNew (aLst (aCons (eOp gIx (eVar 1) (eC (.int 0))) aNil))) (aCons (eC (.int 4)) aNil)))) (gN1 (gNm 2) (gN1 (gNm 3) (gN1 (gNm 4) (gN1 (gNm 5) gN0))))) (sSeq (sWhile (tB1 (eOp gNe (eVar 2) (eDat (aLst aNil)))) (sSeq (sSet 6 (ePop1 (eVar 2) (eCall (T i2_law_take) (aCons (eVar 0) (aCons (eCB gLen (aCons (eVar 2) aNil)) aNil))))) (sSeq (sExpr (eApp2 (eVar 3) (eTup (aCons (eC (.str "copy")) (aCons (eCall (T i3_law_of) (aCons (eVar 0) (aCons (eVar 4) aNil))) (aCons (eVar 6) aNil)))))) (sSeq (sExpr (eApp2 (eVar 4) (eVar 6))) (sSeq (sIf (tAn (tB1 (eOp gGt (eVar 5) (eC (.int 0)))) (tB1 (eOp gEq (eCall (T i2_law_take) (aCons (eVar 0) (aCons (eC (.int 3)) aNil))) (eC (.int 0))))) (sSeq (sSet 5 (eOp gSub (eVar 5) (eC (.int 1)))) (sExpr (eApp2 (eVar 3) (eTup (aCons (eC (.str "use")) (aCons (eCall (T i3_law_of) (aCons (eVar 0) (aCons (eVar 4) aNil))) aNil)))))) sNil) (sIf (tAn (tB1 (eOp gEq (eCall (T i2_law_take) (aCons (eVar 0) (aCons (eC (.int 2)) aNil))) (eC (.int 0)))) (tB1 (eOp gGt (eCB gLen (aCons (eVar 4) aNil)) (eC (.int 1))))) (sExpr (eApp2 (eVar 3) (eTup (aCons (eC (.str "drop")) (aCons (ePop1 (eVar 4) (eCall (T i2_law_take) (aCons (eVar 0) (aCons (eCB gLen (aCons (eVar 4) aNil)) aNil)))) aNil))))) sNil)))))) (sSeq (sSet 7 (eCall (T i3_law_of) (aCons (eVar 0) (aCons (eDat (aLst (aCons (eC (.int 2)) (aCons (eC (.int 9)) (aCons (eC (.int 99)) aNil))))) aNil)))) (sRet (eTup (aCons (eC (.str "seq")) (aCons (eOp gAdd (eCB gTuple (aCons (eVar 3) aNil)) (eCB gTuple (aCons (eDat (aLc (iAny (eVar 4)) [6] (gNm 6) (tB1 (eOp gGt (eCall (T i2_law_take) (aCons (eVar 0) (aCons (eVar 7) aNil))) (eC (.int 0)))) (eTup (aCons (eC (.str "use")) (aCons (eVar 6) aNil))))) aNil))) aNil))))))))
def m24_law_is_plain (T : Nat → Fn) : AS := (sSeq (sIf (tB1 (eOp gIn (eOp gIx (eVar 0) (eC (.int 0))) (eTup (aCons (eC (.str "loop")) (aCons (eC (.str "branch")) aNil))))) (sRet (eC (.bl false))) sNil) (sRet (eOr (eOp gNe (eOp gIx (eVar 0) (eC (.int 0))) (eC (.str "seq"))) (eCB gAll (aCons (eDat (aLc (iAny (eOp gIx (eVar 0) (eC (.int 1)))) [1] (gNm 1) tTrue (eCall (T i24_law_is_plain) (aCons (eVar 1) aNil)))) aNil)))))
def m419_law (T : Nat → Fn) : AS := (sSeq (sFor (iRng (aCons (eCB gMax (aCons (eC (.int 1)) (aCons (eCB gMin (aCons (eC (.int 3)) (aCons (eCB gLen (aCons (eVar 0) aNil)) aNil))) aNil))) aNil)) (gNm 1) (sSeq (sSet 2 (eCall (T i13_law_hand) (aCons (eVar 0) (aCons (eVar 1) aNil)))) (sFor (iAny (eDat (aCat (eCall (T i25_law_some_programs) (aCons (eVar 2) (aCons (eC (.int 8)) aNil))) (eDat (aLst (aCons (eCall (T i26_law_handed) (aCons (eVar 2) aNil)) (aCons (eTup (aCons (eC (.str "seq")) (aCons (eTup (aCons (eCall (T i26_law_handed) (aCons (eVar 2) aNil)) (aCons (eTup (aCons (eC (.str "seq")) (aCons (eTup aNil) aNil))) aNil))) aNil))) aNil))))))) (gNm 3) (sSeq (sSet 4 (eCB gRepr (aCons (eVar 3) aNil))) (sSeq (sSet 5 (eDat (aLst (aCons (eCall (T i20_instructions) (aCons (eVar 3) aNil)) (aCons (eCall (T i27_names_of) (aCons (eVar 3) aNil)) (aCons (eCall (T i22_is_straight) (aCons (eVar 3) aNil)) aNil)))))) (sSeq (sSet 6 (eDat (aLst (aCons (eCB gTuple (aCons (eCall (T i23_law_listed) (aCons (eVar 3) aNil)) aNil)) (aCons (eCB gTuple (aCons (eCall (T i28_law_words) (aCons (eVar 3) aNil)) aNil)) (aCons (eCall (T i24_law_is_plain) (aCons (eVar 3) aNil)) aNil)))))) (sIf (tOrr (tB1 (eOp gNe (eCB gRepr (aCons (eVar 5) aNil)) (eCB gRepr (aCons (eVar 6) aNil)))) (tB1 (eOp gNe (eCB gRepr (aCons (eVar 3) aNil)) (eVar 4)))) (sRet (eC (.bl false))) sNil))))))) (sRet (eC (.bl true))))
end Lr

local macro_rules | `(tactic| decreasing_trivial) => `(tactic| repeat' (with_reducible (first   | refine Lr.o_seq ?_ | refine Lr.o_set ?_ | refine Lr.o_ret ?_ | refine Lr.o_expr ?_ | refine Lr.o_if ?_ | refine Lr.o_nil ?_ | refine Lr.o_for ?_ | refine Lr.o_sub ?_ | refine Lr.o_par ?_ | refine Lr.o_asg ?_   | refine Lr.w_c ?_ | refine Lr.w_op ?_ | refine Lr.w_nil ?_ | refine Lr.w_cons ?_ | refine Lr.w_call ?_ | refine Lr.w_cb ?_ | refine Lr.w_acb ?_ | refine Lr.w_tup ?_ | refine Lr.w_lst ?_ | refine Lr.w_new ?_ | refine Lr.w_dat ?_   | refine Lr.w_if ?_ | refine Lr.w_b1 ?_ | refine Lr.w_nt ?_ | refine Lr.w_an ?_ | refine Lr.w_orr ?_ | refine Lr.w_tr ?_ | refine Lr.w_add ?_ | refine Lr.w_addB ?_ | refine Lr.w_subB ?_ | refine Lr.w_strB ?_ | refine Lr.w_sub ?_ | refine Lr.w_lt ?_ | refine Lr.w_le ?_ | refine Lr.w_gt ?_ | refine Lr.w_ge ?_ | refine Lr.w_neg ?_   | refine Lr.w_lenT ?_ | refine Lr.w_lenL ?_ | refine Lr.w_lenC ?_ | refine Lr.w_abs ?_ | refine Lr.w_max ?_ | refine Lr.w_min ?_ | refine Lr.w_intI ?_ | refine Lr.w_intB ?_ | refine Lr.w_tupT ?_ | refine Lr.w_tupL ?_ | refine Lr.w_lisT ?_   | refine Lr.w_chain ?_ | refine Lr.w_eAn ?_ | refine Lr.w_eOr ?_ | refine Lr.w_eNt ?_ | refine Lr.w_oN ?_ | refine Lr.w_oS ?_ | refine Lr.w_sl ?_ | refine Lr.w_rev ?_ | refine Lr.w_cat ?_ | refine Lr.w_app ?_ | refine Lr.w_ext ?_ | refine Lr.w_dic0 ?_ | refine Lr.w_dic1 ?_ | refine Lr.w_rng ?_ | refine Lr.w_lcU ?_ | refine Lr.w_dcU ?_ | refine Lr.w_dnew ?_ | refine Lr.w_dkeep ?_ | refine Lr.w_upd ?_ | refine Lr.o_dput ?_ | refine Lr.w_pop0 ?_ | refine Lr.w_pop1 ?_ | refine Lr.o_while ?_ | refine Lr.w_ok ?_   | (apply Lr.w_var; with_unfolding_all exact rfl)   | (refine Exists.intro _ (And.intro rfl ?_)) | fail)))


namespace Lr
open PySem PySem.Spec L2
theorem take_draws (T : Nat → Fn) {n : Nat} {many : Int} (h1 : 1 ≤ many) (h2 : many < 4611686018427387904) : Draws (fnR 5 2 (m2_law_take T)) n [.loc n, .int many] 1 (fun v => ∃ d, v = .int d ∧ 0 ≤ d ∧ d < many) := by
  refine Draws.of rfl fun μ B hb hs => ?_
  have hn := hs.lt
  obtain ⟨g, c, m, e, g0, c0, c1, m0, m1⟩ := hs
  have hm : (0 : Int) < many := by omega
  simp only [startA_s, List.map_cons, List.map_nil, List.length_cons, List.length_nil, Nat.reduceAdd, Nat.reduceSub, List.replicate_succ, List.replicate_zero, List.cons_append, List.nil_append]
  unfold m2_law_take
  decreasing_trivial
  refine w_ixO e rfl ?_
  decreasing_trivial
  by_cases hg : 0 < g
  · rw [if_pos (decide_eq_true hg)]
    decreasing_trivial
    refine w_ixO e rfl ?_
    decreasing_trivial
    refine w_mod hm ?_
    decreasing_trivial
    refine w_ixO e rfl ?_
    decreasing_trivial
    refine w_div hm (by omega) ?_
    decreasing_trivial
    refine ⟨n, _, 0, 0, rfl, rfl, e, rfl, ?_⟩
    decreasing_trivial
    exact ⟨rfl, Ext.set (Ext.refl n μ) _ (.inr rfl), ⟨g / many, c, m, by simp [hn], Int.ediv_nonneg g0 (by omega), c0, c1, m0, by omega⟩, _, rfl, Int.emod_nonneg _ (by omega), Int.emod_lt_of_pos _ hm⟩
  · rw [if_neg (by simpa using hg)]
    decreasing_trivial
    refine w_ixO e rfl ?_
    decreasing_trivial
    refine ⟨n, _, 2, 2, rfl, rfl, e, rfl, ?_⟩
    have e' : (μ.set n (.lst ([AV.int g, .int c, .int m].set 2 (.int (m + 1)))))[n]? = some (.lst [.int g, .int c, .int (m + 1)]) := by simp [hn]
    have x1 : Ext n μ (μ.set n (.lst ([AV.int g, .int c, .int m].set 2 (.int (m + 1))))) := Ext.set (Ext.refl n μ) _ (.inr rfl)
    revert e' x1
    generalize μ.set n (.lst ([AV.int g, .int c, .int m].set 2 (.int (m + 1)))) = σ
    intro e' x1
    decreasing_trivial
    refine ⟨by decide, ?_⟩
    decreasing_trivial
    refine w_ixO e' rfl ?_
    decreasing_trivial
    refine w_mod (by decide) ?_
    obtain ⟨p, hp, hpm⟩ : ∃ p : Int, atI [AV.int 2147483647, .int 2147483629, .int 2147483587, .int 2147483579, .int 2147483563] ((m + 1) % 5) = some (.int p) ∧ 2147483563 ≤ p ∧ p ≤ 2147483647 := by
      have : (m + 1) % 5 = 0 ∨ (m + 1) % 5 = 1 ∨ (m + 1) % 5 = 2 ∨ (m + 1) % 5 = 3 ∨ (m + 1) % 5 = 4 := by omega
      rcases this with h | h | h | h | h <;> rw [h] <;> exact ⟨_, rfl, by decide, by decide⟩
    have hp0 : 0 < p := by omega
    refine w_ixL hp ?_
    decreasing_trivial
    refine w_ixO e' rfl ?_
    decreasing_trivial
    refine w_ixO e' rfl ?_
    refine w_mul (mulOk_l (by decide)) ?_
    decreasing_trivial
    refine w_pow (by decide) (by decide) (by omega) ?_
    decreasing_trivial
    refine w_mod hp0 ?_
    have d0 : 0 ≤ (c + 7919 * (m + 1)) ^ (3 : Int).toNat % p := Int.emod_nonneg _ (by omega)
    have d1 : (c + 7919 * (m + 1)) ^ (3 : Int).toNat % p < p := Int.emod_lt_of_pos _ hp0
    revert d0 d1
    generalize (c + 7919 * (m + 1)) ^ (3 : Int).toNat % p = d
    intro d0 d1
    decreasing_trivial
    refine w_mod (by decide) ?_
    decreasing_trivial
    refine w_ixO e' rfl ?_
    decreasing_trivial
    refine w_mul (mulOk_l (by omega)) ?_
    decreasing_trivial
    refine w_mod hp0 ?_
    decreasing_trivial
    refine w_div (by decide) (by decide) ?_
    decreasing_trivial
    refine w_mod hm ?_
    exact ⟨rfl, x1, ⟨g, c, m + 1, e', g0, c0, c1, by omega, by omega⟩, _, rfl, Int.emod_nonneg _ (by omega), Int.emod_lt_of_pos _ hm⟩
def TakeOk (f : Fn) : Prop := ∀ (n : Nat) (many : Int), 1 ≤ many → many < 4611686018427387904 → Draws f n [.loc n, .int many] 1 (fun v => ∃ d, v = .int d ∧ 0 ≤ d ∧ d < many)
def OfOk (f : Fn) : Prop := ∀ (n : Nat) (xs : List AV), xs ≠ [] → xs.length ≤ 16777216 → pureL xs = true → Draws f n [.loc n, .lst xs] 1 (fun v => v ∈ xs)
def OfOk2 (f : Fn) : Prop := ∀ (n l : Nat) (xs : List AV) (μ : Store) (B : Nat), l ≠ n → xs ≠ [] → xs.length ≤ 16777216 → pureL xs = true → μ[l]? = some (.lst xs) → B + 1 ≤ 1000000000 → Hst μ n B → wp (f [.loc n, .loc l] μ) fun v σ => Stp n μ σ ∧ Hst σ n (B + 1) ∧ pure? v = true ∧ v ∈ xs
theorem pure_mem {v : AV} {xs : List AV} (h : pureL xs = true) (m : v ∈ xs) : pure? v = true := by
  rw [pureL_all] at h
  exact List.all_eq_true.mp h v m
theorem of_ok (T : Nat → Fn) (ht : TakeOk (T i2_law_take)) : OfOk (fnR 2 2 (m3_law_of T)) := fun n xs hne hz hp => by
  refine Draws.of rfl fun μ B hb hs => ?_
  simp only [startA_s, List.map_cons, List.map_nil, List.length_cons, List.length_nil, Nat.reduceAdd, Nat.reduceSub, List.replicate_succ, List.replicate_zero, List.cons_append, List.nil_append]
  unfold m3_law_of
  decreasing_trivial
  have hl : 0 < xs.length := List.length_pos_iff.mpr hne
  refine (ht n xs.length (by omega) (by omega) μ B hb hs).mono fun v σ ⟨s1, h1, pv, d, e, d0, d1⟩ => ?_
  subst e
  obtain ⟨v, e, hm⟩ := atI_get d0 d1
  refine w_ixL e ?_
  exact ⟨pure_mem hp hm, s1.ext, h1, hm⟩
theorem of_ok2 (T : Nat → Fn) (ht : TakeOk (T i2_law_take)) : OfOk2 (fnR 2 2 (m3_law_of T)) := fun n l xs μ B hln hne hz hp e hb hs => by
  refine fn_wp rfl ?_
  simp only [startA_s, List.map_cons, List.map_nil, List.length_cons, List.length_nil, Nat.reduceAdd, Nat.reduceSub, List.replicate_succ, List.replicate_zero, List.cons_append, List.nil_append]
  unfold m3_law_of
  decreasing_trivial
  refine w_lenO e ?_
  decreasing_trivial
  have hl : 0 < xs.length := List.length_pos_iff.mpr hne
  refine (ht n xs.length (by omega) (by omega) μ B hb hs).mono fun v σ ⟨s1, h1, pv, d, e1, d0, d1⟩ => ?_
  subst e1
  obtain ⟨v, e2, hm⟩ := atI_get d0 d1
  refine w_ixO ((s1.2 l hln).trans e) e2 ?_
  obtain ⟨g1, g2, g3⟩ := s1.ext.gc h1 hs.lt
  exact ⟨pure_mem hp hm, g1, g2, g3, pure_mem hp hm, hm⟩
theorem fit_of {c d : Nat} {v : AV} (h1 : sh v = true) (h2 : sz v ≤ c) (h3 : dep v ≤ d) : Fit c d v := ⟨h1, h2, h3⟩
theorem o_seq2 {a b : AS} {ρ : Loc} {μ : Store} {D : Kt} (K : Loc → Store → Prop) (h1 : wo (a ρ μ) { D with nx := K }) (h2 : ∀ ρ1 μ1, K ρ1 μ1 → wo (b ρ1 μ1) D) : wo (sSeq a b ρ μ) D := by
  rw [wo_seq]
  exact h1.mono h2 (fun _ _ h => h) (fun _ _ h => h) (fun _ _ h => h)
theorem ne_nil_t {xs : List AV} {μ : Store} {Q : AV → Store → Prop} (h : Q (.bl (!xs.isEmpty)) μ) : wp (gNe (.tup xs) (.tup []) μ) Q :=
  w_gNe (by cases xs <;> simp [eqB, lsOf, eqv, eqvL]) (by simp [depM, lsOf, dep, depL]) h
theorem isi_no {v : AV} {μ : Store} {n : String} {Q : AV → Store → Prop} {k : String} (e : kindA μ v = some k) (e2 : isiB k n = some false) (h : Q (.bl false) μ) : wp (gIsi [v, .ty n] μ) Q := w_isi e e2 h
def kind0 : AV → Option String
  | .non => some "NoneType"
  | .bl _ => some "bool"
  | .int _ => some "int"
  | .str _ => some "str"
  | .tup _ => some "tuple"
  | .lst _ => some "list"
  | .dct _ => some "dict"
  | _ => none
theorem cut_split {xs : List AV} {i : Nat} {x : AV} (h : xs[i]? = some x) : xs = xs.take i ++ x :: xs.drop (i + 1) := by
  have hi := (List.getElem?_eq_some_iff.mp h).1
  have e := List.drop_eq_getElem_cons hi
  have e2 : xs[i] = x := by
    rw [List.getElem?_eq_getElem hi] at h
    exact Option.some.inj h
  rw [← e2, ← e, List.take_append_drop]
theorem cut_lo {xs : List AV} {i : Nat} (h : i ≤ xs.length) : cutA xs none (some (i : Int)) = xs.take i := by
  unfold cutA
  rw [HT.sIx_none, HT.sIx_nat, Nat.sub_zero, List.drop_zero, Nat.min_eq_left h]
theorem cut_hi {xs : List AV} {i : Nat} (h : i ≤ xs.length) : cutA xs (some (i : Int)) none = xs.drop i := by
  unfold cutA
  rw [HT.sIx_none, HT.sIx_nat, Nat.min_eq_left h, List.take_of_length_le (by rw [List.length_drop]; omega)]
theorem fitL_sub {c d : Nat} {xs : List AV} (h : FitL c d xs) (a b : Nat) : FitL c d ((xs.drop a).take b) := by
  have e1 : FitL c d (xs.drop a) := by
    have z := h
    rw [← List.take_append_drop a xs] at z
    have z1 := z.2.1
    rw [szL_app] at z1
    exact z.right.mono (by omega) (Nat.le_refl _)
  have z := e1
  rw [← List.take_append_drop b (xs.drop a)] at z
  have z1 := z.2.1
  rw [szL_app] at z1
  exact z.left.mono (by omega) (Nat.le_refl _)
theorem kind_eq {μ : Store} {v : AV} (h : pure? v = true) {k : String} (e : kind0 v = some k) : kindA μ v = some k := by
  cases v <;> first | exact e | (simp [pure?] at h; done) | (simp [kind0] at e; done)
theorem kind_sh {v : AV} (h : sh v = true) : ∃ k, kind0 v = some k ∧ k ∈ ["NoneType", "bool", "int", "str", "tuple", "list", "dict"] := by
  cases v <;> first | (simp [sh] at h; done) | exact ⟨_, rfl, by simp⟩
def Pure1 (f : Fn) (as : List AV) (r : AV) : Prop := ∀ μ, wp (f as μ) fun v σ => v = r ∧ σ = μ
theorem Pure1.of {k m : Nat} {b : AS} {as : List AV} {r : AV} (hl : as.length = m) (h : ∀ μ, wo (b (startA k as) μ) { rt := fun v σ => σ = μ ∧ pure? v = true ∧ v = r }) : Pure1 (fnR k m b) as r := fun μ => by
  refine fn_wp hl ((h μ).mono (fun _ _ h => False.elim h) (fun v σ ⟨h1, h2, h3⟩ => ?_) (fun _ _ h => False.elim h) (fun _ _ h => False.elim h))
  subst h1
  exact ⟨h2, fun i o _ e => .inl e, h3, List.take_length⟩
theorem ite_k {b : Bool} {P Q : Prop} (h1 : b = true → P) (h2 : b = false → Q) : if b = true then P else Q := by
  cases b
  · rw [if_neg (by simp)]
    exact h2 rfl
  · rw [if_pos rfl]
    exact h1 rfl
theorem isi_tup {v : AV} {μ : Store} {Q : AV → Store → Prop} (hv : sh v = true) (h1 : ∀ xs, v = .tup xs → Q (.bl true) μ) (h2 : (∀ xs, v ≠ .tup xs) → Q (.bl false) μ) : wp (gIsi [v, .ty "tuple"] μ) Q := by
  obtain ⟨k, ek, hk⟩ := kind_sh hv
  have em := kind_eq (μ := μ) (sh_pure v hv) ek
  cases v <;> first | (simp [sh] at hv; done) | cases ek
  case tup.refl => exact w_isi em (by decide) (h1 _ rfl)
  all_goals exact w_isi em (by decide) (h2 fun _ e => nomatch e)
theorem gNe_i {i j : Int} {μ : Store} {Q : AV → Store → Prop} (h : Q (.bl (!(i == j))) μ) : wp (gNe (.int i) (.int j) μ) Q := w_gNe (by simp [eqB, lsOf, eqv]) (by simp [depM, lsOf, dep]) h
theorem push_get {σ : Store} {xs : List AV} : (σ ++ [AO.lst xs])[σ.length]? = some (.lst xs) := by simp
theorem fit_pair {i j : Int} (hi : i.natAbs < 10 ^ 100) (hj : j.natAbs < 10 ^ 100) : Fit 211 1 (.tup [.int i, .int j]) := (FitL.cons (fit_int hi) (FitL.cons (fit_int hj) .nil)).tup.mono (by omega) (by omega)
theorem eqB_str {x : Str} {μ : Store} : eqB (.str x) (.str x) μ = some true := by simp [eqB, lsOf, eqv]
theorem ne_same {x : Str} {μ : Store} {Q : AV → Store → Prop} (h : Q (.bl false) μ) : wp (gNe (.str x) (.str x) μ) Q := w_gNe eqB_str (by simp [depM, lsOf, dep]) h
theorem repr_bl {b : Bool} {μ : Store} {Q : AV → Store → Prop} (h : Q (.str (PyData.shown (.bool b))) μ) : wp (gRepr [.bl b] μ) Q := w_repr (d := .bool b) rfl (by cases b <;> decide) h
theorem rng_mem {n i : Nat} {v : AV} (h : (rangeL 0 n)[i]? = some v) : v = .int (i : Int) ∧ i < n := by
  unfold rangeL at h
  rw [List.getElem?_map] at h
  obtain ⟨k, hk, e⟩ := Option.map_eq_some_iff.mp h
  have := List.getElem?_eq_some_iff.mp hk
  obtain ⟨h1, h2⟩ := this
  simp at h1 h2
  subst e
  refine ⟨by rw [← h2]; simp, h1⟩
def HandOk (f : Fn) : Prop := ∀ (ns : List Int) (k : Int) (μ : Store), 0 ≤ k → k < 1000 → wp (f [.scr ns, .int k] μ) fun v σ => v = .loc μ.length ∧ σ.length = μ.length + 1 ∧ (∀ i, i < μ.length → σ[i]? = μ[i]?) ∧ Hst σ μ.length 0
theorem hand_ok (T : Nat → Fn) : HandOk (fnR 4 2 (m13_law_hand T)) := fun ns k μ k0 k1 => by
  refine fn_wpN rfl ?_
  simp only [startA_s, List.map_cons, List.map_nil, List.length_cons, List.length_nil, Nat.reduceAdd, Nat.reduceSub, List.replicate_succ, List.replicate_zero, List.cons_append, List.nil_append]
  unfold m13_law_hand
  refine o_seq2 (fun ρ1 σ => σ = μ ∧ ∃ c : Int, ρ1 = [some (.scr ns), some (.int k), some (.int c), none]) ?_ ?_
  · (decreasing_trivial; repeat ((first | (with_reducible (refine w_len (by simp; done) ?_)) | (with_reducible (refine w_pow (by decide) (by decide) (by decide) ?_)) | fail); decreasing_trivial))
    refine ite_k (fun h => ?_) (fun h => ?_)
    · have h := of_decide_eq_true h
      (decreasing_trivial; repeat ((first | (with_reducible (refine w_len (by simp; done) ?_)) | (with_reducible (refine w_pow (by decide) (by decide) (by decide) ?_)) | fail); decreasing_trivial))
      obtain ⟨c, e, _⟩ := atI_get (xs := ns) k0 (by omega)
      refine w_ixC e ?_
      exact ⟨rfl, c, rfl⟩
    · (decreasing_trivial; repeat ((first | (with_reducible (refine w_len (by simp; done) ?_)) | (with_reducible (refine w_pow (by decide) (by decide) (by decide) ?_)) | fail); decreasing_trivial))
      exact ⟨rfl, 0, rfl⟩
  · rintro ρ1 σ ⟨rfl, c, rfl⟩
    (decreasing_trivial; repeat ((first | (with_reducible (refine w_len (by simp; done) ?_)) | (with_reducible (refine w_pow (by decide) (by decide) (by decide) ?_)) | fail); decreasing_trivial))
    refine w_mul (by decide +kernel) ?_
    (decreasing_trivial; repeat ((first | (with_reducible (refine w_len (by simp; done) ?_)) | (with_reducible (refine w_pow (by decide) (by decide) (by decide) ?_)) | fail); decreasing_trivial))
    refine w_mul (by decide +kernel) ?_
    refine w_mod (by decide +kernel) ?_
    (decreasing_trivial; repeat ((first | (with_reducible (refine w_len (by simp; done) ?_)) | (with_reducible (refine w_pow (by decide) (by decide) (by decide) ?_)) | fail); decreasing_trivial))
    obtain ⟨z, hz⟩ : ∃ z : Int, z = (if c < 0 then -c else c) % (10 ^ Int.toNat 60 * 10 ^ Int.toNat 60 * 10 ^ Int.toNat 60) := ⟨_, rfl⟩
    have z0 : 0 ≤ z := by
      rw [hz]
      exact Int.emod_nonneg _ (by decide +kernel)
    rw [← hz]
    have hq : ∀ q : Bool, 0 ≤ (if q = true then (1 : Int) else 0) ∧ (if q = true then (1 : Int) else 0) ≤ 1 := fun q => by cases q <;> simp
    have hb := hq (decide (10 ^ Int.toNat 18 ≤ if c < 0 then -c else c))
    revert hb
    generalize (if decide (10 ^ Int.toNat 18 ≤ if c < 0 then -c else c) = true then (1 : Int) else 0) = y
    intro hb
    refine w_mul (mulOk_r (by omega)) ?_
    (decreasing_trivial; repeat ((first | (with_reducible (refine w_len (by simp; done) ?_)) | (with_reducible (refine w_pow (by decide) (by decide) (by decide) ?_)) | fail); decreasing_trivial))
    refine w_mod (by decide) ?_
    (decreasing_trivial; repeat ((first | (with_reducible (refine w_len (by simp; done) ?_)) | (with_reducible (refine w_pow (by decide) (by decide) (by decide) ?_)) | fail); decreasing_trivial))
    refine w_mul (mulOk_l (by decide)) ?_
    (decreasing_trivial; repeat ((first | (with_reducible (refine w_len (by simp; done) ?_)) | (with_reducible (refine w_pow (by decide) (by decide) (by decide) ?_)) | fail); decreasing_trivial))
    refine w_mul (mulOk_r (by decide)) ?_
    (decreasing_trivial; repeat ((first | (with_reducible (refine w_len (by simp; done) ?_)) | (with_reducible (refine w_pow (by decide) (by decide) (by decide) ?_)) | fail); decreasing_trivial))
    refine w_mod (by decide) ?_
    (decreasing_trivial; repeat ((first | (with_reducible (refine w_len (by simp; done) ?_)) | (with_reducible (refine w_pow (by decide) (by decide) (by decide) ?_)) | fail); decreasing_trivial))
    refine ⟨by simp [bel], rfl, by simp, fun i hi => by rw [List.getElem?_append_left hi], _, _, 0, push_get, Int.mul_nonneg z0 hb.1, Int.emod_nonneg _ (by decide), Int.emod_lt_of_pos _ (by decide), by decide, by decide⟩
theorem w_mulT {xs : List AV} {k : Int} {μ : Store} {Q : AV → Store → Prop} (h0 : xs ≠ []) (h1 : 0 ≤ k) (h2 : k ≤ 1000) (h3 : xs.length ≤ 1000) (h : Q (.tup (List.replicate k.toNat xs).flatten) μ) : wp (gMul (.tup xs) (.int k) μ) Q := by
  unfold gMul
  have e : (!xs.isEmpty && decide (0 ≤ k) && decide (k ≤ 1000) && decide (xs.length ≤ 1000)) = true := by
    cases xs with
    | nil => exact absurd rfl h0
    | cons a b => simp only [List.isEmpty_cons, Bool.not_false, Bool.true_and, decide_eq_true h1, decide_eq_true h2, decide_eq_true h3]
  simp only [if_pos e]
  exact h
theorem gcOk_pre {μ σ : Store} (h : μ <+: σ) : gcOk μ σ ∧ σ.take μ.length = μ := by
  obtain ⟨r, rfl⟩ := h
  refine ⟨fun i o hi e => .inl ?_, by simp⟩
  rw [List.getElem?_append_left hi] at e
  exact e
theorem Pure1.of' {k m : Nat} {b : AS} {as : List AV} {r : AV} (hl : as.length = m) (h : ∀ μ, wo (b (startA k as) μ) { rt := fun v σ => μ <+: σ ∧ pure? v = true ∧ v = r }) : Pure1 (fnR k m b) as r := fun μ => by
  refine fn_wp hl ((h μ).mono (fun _ _ h => False.elim h) (fun v σ ⟨h1, h2, h3⟩ => ?_) (fun _ _ h => False.elim h) (fun _ _ h => False.elim h))
  exact ⟨h2, (gcOk_pre h1).1, h3, (gcOk_pre h1).2⟩
theorem pre_set {μ σ : Store} {l : Nat} {o : AO} (h : μ <+: σ) (hl : μ.length ≤ l) : μ <+: σ.set l o := by
  obtain ⟨r, rfl⟩ := h
  rw [List.set_append_right l o hl]
  exact List.prefix_append _ _
theorem small_fit {i : Int} (h : -100000 < i) (h2 : i < 100000) : i.natAbs < 10 ^ 100 := Nat.lt_trans (show i.natAbs < 100000 by omega) (by decide)
end Lr


namespace Lr
open PySem PySem.Spec L2
section
variable {α β : Type} {ρ : Loc} {μ : Store} {D : Kt} {Q : AV → Store → Prop} {QL : List AV → Store → Prop} {QS : Src → Store → Prop}
theorem w_mkx {c : Nat} {r : AA} (h : wp (r ρ μ) fun as μ1 => ∃ v, as = [v] ∧ Q (.loc μ1.length) (μ1 ++ [.exc c (some v)])) : wp (eMkX c r ρ μ) Q := by
  unfold eMkX
  rw [wp_bind]
  refine h.mono fun as μ1 h => ?_
  obtain ⟨v, rfl, h⟩ := h
  exact h
theorem w_mkx0 {c : Nat} (h : Q (.loc μ.length) (μ ++ [.exc c none])) : wp (eMkX0 c ρ μ) Q := h
theorem stX_o {n c : Nat} {p : Option AV} (e : μ[n]? = some (.exc c p)) : stX μ (.loc n) = some (c, p) := by simp [stX, e]
theorem w_isx {n c d : Nat} {p : Option AV} (e : μ[n]? = some (.exc c p)) (h : Q (.bl (isub c d)) μ) : wp (gIsiX [.loc n, .obj d] μ) Q := by
  simp only [gIsiX, stX_o e]
  exact h
theorem w_isxV {n c : Nat} {p : Option AV} (e : μ[n]? = some (.exc c p)) (h : Q (.bl true) μ) : wp (gIsiX [.loc n, .ty "ValueError"] μ) Q := by
  simp only [gIsiX, stX_o e]
  exact h
theorem w_val {r : AE} (h : wp (r ρ μ) fun x μ1 => ∃ n c p, x = .loc n ∧ μ1[n]? = some (.exc c (some p)) ∧ Q p μ1) : wp (eVal r ρ μ) Q := by
  unfold eVal
  rw [wp_bind]
  refine h.mono fun x μ1 h => ?_
  obtain ⟨n, c, p, rfl, e, h⟩ := h
  simp only [stX_o e]
  exact h
theorem w_rep {a b : AE} (h : wp (a ρ μ) fun x μ1 => wp (b ρ μ1) fun y μ2 => ∃ xs k, lsOf μ2 x = some xs ∧ y = .int k ∧ 0 ≤ k ∧ k ≤ 1000 ∧ xs.length ≤ 1000 ∧ QL (List.replicate k.toNat xs).flatten μ2) : wp (aRep a b ρ μ) QL := by
  unfold aRep
  rw [wp_bind]
  refine h.mono fun x μ1 h => ?_
  rw [wp_bind]
  refine h.mono fun y μ2 h => ?_
  obtain ⟨xs, k, e, rfl, h1, h2, h3, h⟩ := h
  simp only [e, decide_eq_true h1, decide_eq_true h2, decide_eq_true h3, Bool.and_self, if_true]
  exact h
theorem w_enum {r : AA} (h : wp (r ρ μ) fun as μ1 => ∃ xs, as = [.lst xs] ∧ QS (.dat (enumA xs)) μ1) : wp (iEnumA r ρ μ) QS := by
  unfold iEnumA
  rw [wp_bind]
  refine h.mono fun as μ1 h => ?_
  obtain ⟨xs, rfl, h⟩ := h
  exact h
end
end Lr


namespace Lr
open PySem PySem.Spec L2

inductive RX where
  | ok (v : AV)
  | ex (c : Nat) (p : Option AV)
def RX.res (r : RX) (μ : Store) : Res AV := match r with
  | .ok v => .ok v μ
  | .ex c p => .ex c p μ
def RX.pure : RX → Bool
  | .ok v => pure? v
  | .ex _ none => true
  | .ex _ (some v) => pure? v

def PureX (f : Fn) (as : List AV) (r : RX) : Prop := ∀ μ, f as μ = r.res μ
theorem Pure1.eq {f : Fn} {as : List AV} {r : AV} (h : Pure1 f as r) : PureX f as (.ok r) := fun μ => by
  obtain ⟨v, σ, e, e1, e2⟩ := (h μ).elim
  subst e1 e2
  exact e
theorem PureX.to1 {f : Fn} {as : List AV} {r : AV} (h : PureX f as (.ok r)) : Pure1 f as r := fun μ => by rw [h μ]; exact ⟨rfl, rfl⟩

def woX (o : Out) (D : Kt) (E : Nat → Option AV → Store → Prop) : Prop := match o with
  | .nx ρ μ => D.nx ρ μ
  | .rt v μ => D.rt v μ
  | .bk ρ μ => D.bk ρ μ
  | .ct ρ μ => D.ct ρ μ
  | .ex c p _ μ => E c p μ
  | .bad => False
section
variable {α β : Type} {ρ : Loc} {μ : Store} {D : Kt} {Q : AV → Store → Prop} {QL : List AV → Store → Prop} {E : Nat → Option AV → Store → Prop}
theorem wo.toX {o : Out} (h : wo o D) : woX o D E := by cases o <;> first | exact h | exact False.elim h
theorem wp.toX {r : Res α} {Q : α → Store → Prop} (h : wp r Q) : wpX r Q E := by cases r <;> first | exact h | exact False.elim h
theorem wpX.mono {r : Res α} {Q Q' : α → Store → Prop} {E' : Nat → Option AV → Store → Prop} (h : wpX r Q E) (k : ∀ a μ, Q a μ → Q' a μ) (k2 : ∀ c p μ, E c p μ → E' c p μ) : wpX r Q' E' := by
  cases r with
  | ok a μ => exact k a μ h
  | ex c p μ => exact k2 c p μ h
  | bad => exact False.elim h
theorem x_seq {a b : AS} (h : woX (a ρ μ) { D with nx := fun ρ1 μ1 => woX (b ρ1 μ1) D E } E) : woX (sSeq a b ρ μ) D E := by
  unfold sSeq
  cases e : a ρ μ <;> rw [e] at h <;> exact h
theorem x_if {t : AT} {a b : AS} (h : wp (t ρ μ) fun k μ1 => if k = true then woX (a ρ μ1) D E else woX (b ρ μ1) D E) : woX (sIf t a b ρ μ) D E := by
  unfold sIf
  cases e : t ρ μ with
  | ok k μ1 =>
    rw [e] at h
    have h2 : if k = true then woX (a ρ μ1) D E else woX (b ρ μ1) D E := h
    cases k
    · simpa using h2
    · simpa using h2
  | ex c p μ1 => rw [e] at h; exact False.elim h
  | bad => rw [e] at h; exact False.elim h
theorem x_raise {c : Nat} {r : AA} (h : wp (r ρ μ) fun as μ1 => ∃ v, as = [v] ∧ E c (some v) μ1) : woX (sRaise c r ρ μ) D E := by
  unfold sRaise
  cases e : r ρ μ with
  | ok as μ1 =>
    rw [e] at h
    obtain ⟨v, rfl, h⟩ := h
    exact h
  | ex c p μ1 => rw [e] at h; exact False.elim h
  | bad => rw [e] at h; exact False.elim h
theorem x_expr {r : AE} (h : wpX (r ρ μ) (fun _ μ1 => D.nx ρ μ1) E) : woX (sExpr r ρ μ) D E := by
  unfold sExpr
  cases e : r ρ μ <;> rw [e] at h <;> first | exact h | exact False.elim h
theorem x_set {i : Nat} {r : AE} (h : wpX (r ρ μ) (fun v μ1 => D.nx (ρ.set i (some v)) μ1) E) : woX (sSet i r ρ μ) D E := by
  unfold sSet
  cases e : r ρ μ <;> rw [e] at h <;> first | exact h | exact False.elim h
theorem x_ret {r : AE} (h : wpX (r ρ μ) (fun v μ1 => D.rt v μ1) E) : woX (sRet r ρ μ) D E := by
  unfold sRet
  cases e : r ρ μ <;> rw [e] at h <;> first | exact h | exact False.elim h
theorem x_call {f : Fn} {a : AA} (h : wp (a ρ μ) fun as μ1 => wpX (f as μ1) Q E) : wpX (eCall f a ρ μ) Q E := by
  unfold eCall
  cases e : a ρ μ with
  | ok as μ1 => rw [e] at h; exact h
  | ex c p μ1 => rw [e] at h; exact False.elim h
  | bad => rw [e] at h; exact False.elim h
theorem woX.mono {D' : Kt} {E' : Nat → Option AV → Store → Prop} {o : Out} (h : woX o D E) (h1 : ∀ ρ μ, D.nx ρ μ → D'.nx ρ μ) (h2 : ∀ v μ, D.rt v μ → D'.rt v μ) (h3 : ∀ ρ μ, D.bk ρ μ → D'.bk ρ μ) (h4 : ∀ ρ μ, D.ct ρ μ → D'.ct ρ μ) (h5 : ∀ c p μ, E c p μ → E' c p μ) : woX o D' E' := by
  cases o with
  | nx ρ μ => exact h1 _ _ h
  | rt v μ => exact h2 _ _ h
  | bk ρ μ => exact h3 _ _ h
  | ct ρ μ => exact h4 _ _ h
  | ex c p ρ μ => exact h5 _ _ _ h
  | bad => exact False.elim h
theorem gc_same {v : AV} : gc μ (.ok v μ) = .ok v μ := by
  unfold gc
  dsimp only
  split
  · rw [List.take_length]
  · rfl
theorem gc_pure {σ : Store} {v : AV} (hp : pure? v = true) (h : μ <+: σ) : gc μ (.ok v σ) = .ok v μ := by
  unfold gc
  dsimp only
  obtain ⟨g1, g2⟩ := gcOk_pre h
  have hb : bel μ.length v = true := bel_pure μ.length v hp
  rw [if_pos ⟨hb, g1⟩, g2]

theorem PureX.of {k m : Nat} {b : AS} {as : List AV} {r : RX} (hl : as.length = m) (h : ∀ μ, woX (b (startA k as) μ) { nx := fun _ σ => μ <+: σ ∧ r = .ok .non, rt := fun v σ => μ <+: σ ∧ pure? v = true ∧ r = .ok v } fun c p σ => σ = μ ∧ r = .ex c p) : PureX (fnR k m b) as r := fun μ => by
  unfold fnR
  rw [if_pos hl]
  unfold bodyR
  have h := h μ
  cases e : b (startA k as) μ with
  | nx ρ σ =>
    rw [e] at h
    obtain ⟨h1, rfl⟩ := h
    exact gc_pure rfl h1
  | rt v σ =>
    rw [e] at h
    obtain ⟨h1, h2, rfl⟩ := h
    exact gc_pure h2 h1
  | ex c p ρ σ =>
    rw [e] at h
    obtain ⟨rfl, rfl⟩ := h
    rfl
  | bk ρ σ => rw [e] at h; exact False.elim h
  | ct ρ σ => rw [e] at h; exact False.elim h
  | bad => rw [e] at h; exact False.elim h
theorem PureX.wpX {f : Fn} {as : List AV} {r : RX} (h : PureX f as r) (k : ∀ v, r = .ok v → Q v μ) (k2 : ∀ c p, r = .ex c p → E c p μ) : Lr.wpX (f as μ) Q E := by
  rw [h μ]
  cases r with
  | ok v => exact k v rfl
  | ex c p => exact k2 c p rfl

theorem w_fld {cs : List Nat} {f : Str} {r : AE} (h : wp (r ρ μ) fun x μ1 => ∃ n c fs v, x = .loc n ∧ μ1[n]? = some (.ins c fs) ∧ c ∈ cs ∧ fs.lookup f = some v ∧ Q v μ1) : wp (eFld cs f r ρ μ) Q := by
  unfold eFld
  rw [wp_bind]
  refine h.mono fun x μ1 h => ?_
  obtain ⟨n, c, fs, v, rfl, e, hc, hl, h⟩ := h
  rw [insAt_loc e]
  dsimp only
  rw [if_pos hc, hl]
  exact h
theorem o_fldP {cs : List Nat} {f : Str} {ro rv : AE} (h : wp (rv ρ μ) fun v μ1 => wp (ro ρ μ1) fun o μ2 => ∃ n c fs, o = .loc n ∧ μ2[n]? = some (.ins c fs) ∧ c ∈ cs ∧ fs.length < 1000 ∧ D.nx ρ (μ2.set n (.ins c (putFA f v fs)))) : wo (sFldP cs f ro rv ρ μ) D := by
  unfold sFldP
  rw [wo_out]
  refine h.mono fun v μ1 h => ?_
  rw [wo_out]
  refine h.mono fun o μ2 h => ?_
  obtain ⟨n, c, fs, rfl, e, hc, hz, h⟩ := h
  unfold putAt
  rw [insAt_loc e]
  dsimp only
  rw [if_pos ⟨hc, hz⟩]
  exact h
theorem w_meth {cs : List Nat} {m : Str} {rm : Nat → Fn} {ro : AE} {a : AA} (h : wp (ro ρ μ) fun o μ1 => ∃ n c fs, o = .loc n ∧ μ1[n]? = some (.ins c fs) ∧ c ∈ cs ∧ (fs.lookup m).isNone = true ∧ wp (a ρ μ1) fun as μ2 => wp (rm c (.loc n :: as) μ2) Q) : wp (eMeth cs m rm ro a ρ μ) Q := by
  unfold eMeth
  rw [wp_bind]
  refine h.mono fun o μ1 h => ?_
  obtain ⟨n, c, fs, rfl, e, hc, hz, h⟩ := h
  rw [insAt_loc e]
  dsimp only
  rw [if_pos ⟨hc, hz⟩, wp_bind]
  exact h
theorem w_mki {c : Nat} {r : Fn} {a : AA} (h : wp (a ρ μ) fun as μ1 => wp (r (.loc μ1.length :: as) (μ1 ++ [.ins c []])) fun v μ2 => v = .non ∧ Q (.loc μ1.length) μ2) : wp (eMkI c r a ρ μ) Q := by
  unfold eMkI
  rw [wp_bind]
  refine h.mono fun as μ1 h => ?_
  rw [wp_bind]
  refine h.mono fun v μ2 h => ?_
  obtain ⟨rfl, h⟩ := h
  exact h
theorem o_match {e : AE} {c : AV → AS} (h : wp (e ρ μ) fun v μ1 => wo (c v ρ μ1) D) : wo (sMatch e c ρ μ) D := by
  unfold sMatch
  rw [wo_out]
  exact h
theorem o_seq2h {i j : Nat} {g : AT} {b : AS} {r : AV → AS} {x y : AV} (h : wp (g ((ρ.set i (some x)).set j (some y)) μ) fun k μ1 => if k = true then wo (b ((ρ.set i (some x)).set j (some y)) μ1) D else wo (r (.tup [x, y]) ((ρ.set i (some x)).set j (some y)) μ1) D) : wo (mcSeq2 i j g b r (.tup [x, y]) ρ μ) D := by
  rw [mcSeq2_2, wo_out]
  refine h.mono fun k μ1 h => ?_
  cases k <;> simpa using h
theorem o_seq2n {i j : Nat} {g : AT} {b : AS} {r : AV → AS} {vs : List AV} (hl : vs.length ≠ 2) (h : wo (r (.tup vs) ρ μ) D) : wo (mcSeq2 i j g b r (.tup vs) ρ μ) D := by
  rw [mcSeq2_n hl]
  exact h
theorem w_sortL {x : AV} {xs : List AV} {ns : List Int} (e : lsOf μ x = some xs) (e2 : intsOf xs = some ns) (h : QL ((sortI ns).map AV.int) μ) : wp (gSortL [x] μ) QL := by
  unfold gSortL
  simp only [e, e2]
  exact h
theorem w_sortSet {r : AE} (h : wp (r ρ μ) fun x μ1 => ∃ xs ns, lsOf μ1 x = some xs ∧ intsOf xs = some ns ∧ ns.length ≤ 4000 ∧ (sortD ns).length < 64 ∧ QL ((sortD ns).map AV.int) μ1) : wp (aSortSet r ρ μ) QL := by
  unfold aSortSet
  rw [wp_bind]
  refine h.mono fun x μ1 h => ?_
  obtain ⟨xs, ns, e1, e2, h1, h2, h⟩ := h
  simp only [e1, e2]
  rw [if_pos ⟨h1, h2⟩]
  exact h
theorem w_lRg {r : AE} (h : wp (r ρ μ) fun x μ1 => ∃ j : Int, x = .int j ∧ 0 ≤ j ∧ j ≤ 1000000 ∧ QL (rangeL 0 j.toNat) μ1) : wp (aLRg r ρ μ) QL := by
  unfold aLRg
  rw [wp_bind]
  refine h.mono fun x μ1 h => ?_
  obtain ⟨j, rfl, h1, h2, h⟩ := h
  simp only [decide_eq_true h1, decide_eq_true h2, Bool.and_self, if_true]
  exact h
end
end Lr


namespace Lr
open PySem PySem.Spec L2
inductive Tr where
  | new (x : Str) | use (x : Str) | drop (x : Str) | copy (x y : Str)
  | seq (ps : List Tr) | branch (ps : List Tr) | loop (p : Tr)
mutual
def Tr.v : Tr → AV
  | .new x => .tup [.str "new", .str x]
  | .use x => .tup [.str "use", .str x]
  | .drop x => .tup [.str "drop", .str x]
  | .copy x y => .tup [.str "copy", .str x, .str y]
  | .seq ps => .tup [.str "seq", .tup (Tr.vs ps)]
  | .branch ps => .tup [.str "branch", .tup (Tr.vs ps)]
  | .loop p => .tup [.str "loop", p.v]
def Tr.vs : List Tr → List AV
  | [] => []
  | p :: ps => p.v :: Tr.vs ps
end
theorem Tr.vs_map : ∀ ps : List Tr, Tr.vs ps = ps.map Tr.v
  | [] => rfl
  | p :: ps => by rw [List.map_cons, ← Tr.vs_map ps]; rfl
mutual
def Tr.dep : Tr → Nat
  | .new _ => 1 | .use _ => 1 | .drop _ => 1 | .copy _ _ => 1
  | .seq ps => Tr.deps ps + 1
  | .branch ps => Tr.deps ps + 1
  | .loop p => p.dep + 1
def Tr.deps : List Tr → Nat
  | [] => 0
  | p :: ps => max p.dep (Tr.deps ps)
end
mutual
def Tr.nodes : Tr → Nat
  | .new _ => 1 | .use _ => 1 | .drop _ => 1 | .copy _ _ => 1
  | .seq ps => Tr.nodesL ps + 1
  | .branch ps => Tr.nodesL ps + 1
  | .loop p => p.nodes + 1
def Tr.nodesL : List Tr → Nat
  | [] => 0
  | p :: ps => p.nodes + Tr.nodesL ps
end
mutual

def Tr.ins : Tr → List Tr
  | .new x => [.new x] | .use x => [.use x] | .drop x => [.drop x] | .copy x y => [.copy x y]
  | .seq ps => Tr.insL ps
  | .branch ps => Tr.insL ps
  | .loop p => p.ins
def Tr.insL : List Tr → List Tr
  | [] => []
  | p :: ps => p.ins ++ Tr.insL ps
end
mutual

def Tr.ok (N : List Str) : Tr → Prop
  | .new x => x ∈ N | .use x => x ∈ N | .drop x => x ∈ N | .copy x y => x ∈ N ∧ y ∈ N
  | .seq ps => ps.length ≤ 20 ∧ Tr.oks N ps
  | .branch ps => (1 ≤ ps.length ∧ ps.length ≤ 6) ∧ Tr.oks N ps
  | .loop p => p.ok N
def Tr.oks (N : List Str) : List Tr → Prop
  | [] => True
  | p :: ps => p.ok N ∧ Tr.oks N ps
end
theorem Tr.oks_iff {N : List Str} : ∀ {ps : List Tr}, Tr.oks N ps ↔ ∀ p ∈ ps, p.ok N
  | [] => by simp [Tr.oks]
  | p :: ps => by simp only [Tr.oks, List.mem_cons, forall_eq_or_imp, Tr.oks_iff (ps := ps)]
theorem Tr.deps_iff {d : Nat} : ∀ {ps : List Tr}, Tr.deps ps ≤ d ↔ ∀ p ∈ ps, p.dep ≤ d
  | [] => by simp [Tr.deps]
  | p :: ps => by simp only [Tr.deps, Nat.max_le, List.mem_cons, forall_eq_or_imp, Tr.deps_iff (ps := ps)]
theorem Tr.nodesL_sum : ∀ ps : List Tr, Tr.nodesL ps = (ps.map Tr.nodes).sum
  | [] => rfl
  | p :: ps => by rw [List.map_cons, List.sum_cons, ← Tr.nodesL_sum ps]; rfl
theorem Tr.insL_flat : ∀ ps : List Tr, Tr.insL ps = ps.flatMap Tr.ins
  | [] => rfl
  | p :: ps => by rw [List.flatMap_cons, ← Tr.insL_flat ps]; rfl
theorem Tr.nodes_pos : ∀ t : Tr, 1 ≤ t.nodes := fun t => by cases t <;> simp [Tr.nodes]
theorem Tr.dep_pos : ∀ t : Tr, 1 ≤ t.dep := fun t => by cases t <;> simp [Tr.dep]
theorem Tr.oks_app {N : List Str} {a b : List Tr} : Tr.oks N (a ++ b) ↔ Tr.oks N a ∧ Tr.oks N b := by
  simp only [Tr.oks_iff, List.mem_append, or_imp, forall_and]
theorem Tr.nodesL_app (a b : List Tr) : Tr.nodesL (a ++ b) = Tr.nodesL a + Tr.nodesL b := by
  simp [Tr.nodesL_sum]
theorem Tr.insL_app (a b : List Tr) : Tr.insL (a ++ b) = Tr.insL a ++ Tr.insL b := by
  simp [Tr.insL_flat]
mutual
theorem Tr.ok_mono {N M : List Str} (h : ∀ x ∈ N, x ∈ M) : ∀ t : Tr, t.ok N → t.ok M
  | .new x, k => h x k
  | .use x, k => h x k
  | .drop x, k => h x k
  | .copy x y, k => ⟨h x k.1, h y k.2⟩
  | .seq ps, k => ⟨k.1, Tr.oks_mono h ps k.2⟩
  | .branch ps, k => ⟨k.1, Tr.oks_mono h ps k.2⟩
  | .loop p, k => Tr.ok_mono h p k
theorem Tr.oks_mono {N M : List Str} (h : ∀ x ∈ N, x ∈ M) : ∀ ps : List Tr, Tr.oks N ps → Tr.oks M ps
  | [], _ => trivial
  | p :: ps, k => ⟨Tr.ok_mono h p k.1, Tr.oks_mono h ps k.2⟩
end
mutual
theorem Tr.ins_nodes : ∀ t : Tr, t.ins.length ≤ t.nodes
  | .new x => Nat.le_refl _
  | .use x => Nat.le_refl _
  | .drop x => Nat.le_refl _
  | .copy x y => Nat.le_refl _
  | .seq ps => by have := Tr.insL_nodes ps; simp only [Tr.ins, Tr.nodes]; omega
  | .branch ps => by have := Tr.insL_nodes ps; simp only [Tr.ins, Tr.nodes]; omega
  | .loop p => by have := Tr.ins_nodes p; simp only [Tr.ins, Tr.nodes]; omega
theorem Tr.insL_nodes : ∀ ps : List Tr, (Tr.insL ps).length ≤ Tr.nodesL ps
  | [] => Nat.le_refl _
  | p :: ps => by have := Tr.ins_nodes p; have := Tr.insL_nodes ps; simp only [Tr.insL, Tr.nodesL, List.length_append]; omega
end

def Tr.leaf : Tr → Bool
  | .new _ => true | .use _ => true | .drop _ => true | .copy _ _ => true
  | _ => false
mutual
theorem Tr.ins_leaf : ∀ t : Tr, ∀ i ∈ t.ins, i.leaf = true
  | .new x, i, h => by rw [List.mem_singleton.mp h]; rfl
  | .use x, i, h => by rw [List.mem_singleton.mp h]; rfl
  | .drop x, i, h => by rw [List.mem_singleton.mp h]; rfl
  | .copy x y, i, h => by rw [List.mem_singleton.mp h]; rfl
  | .seq ps, i, h => Tr.insL_leaf ps i h
  | .branch ps, i, h => Tr.insL_leaf ps i h
  | .loop p, i, h => Tr.ins_leaf p i h
theorem Tr.insL_leaf : ∀ ps : List Tr, ∀ i ∈ Tr.insL ps, i.leaf = true
  | [], i, h => nomatch h
  | p :: ps, i, h => by
    rcases List.mem_append.mp h with h | h
    · exact Tr.ins_leaf p i h
    · exact Tr.insL_leaf ps i h
end
mutual
theorem Tr.ins_ok {N : List Str} : ∀ t : Tr, t.ok N → ∀ i ∈ t.ins, i.ok N
  | .new x, k, i, h => by rw [List.mem_singleton.mp h]; exact k
  | .use x, k, i, h => by rw [List.mem_singleton.mp h]; exact k
  | .drop x, k, i, h => by rw [List.mem_singleton.mp h]; exact k
  | .copy x y, k, i, h => by rw [List.mem_singleton.mp h]; exact k
  | .seq ps, k, i, h => Tr.insL_ok ps k.2 i h
  | .branch ps, k, i, h => Tr.insL_ok ps k.2 i h
  | .loop p, k, i, h => Tr.ins_ok p k i h
theorem Tr.insL_ok {N : List Str} : ∀ ps : List Tr, Tr.oks N ps → ∀ i ∈ Tr.insL ps, i.ok N
  | [], _, i, h => nomatch h
  | p :: ps, k, i, h => by
    rcases List.mem_append.mp h with h | h
    · exact Tr.ins_ok p k.1 i h
    · exact Tr.insL_ok ps k.2 i h
end

def NM : List Str := ["a", "b", "copytx", "drop", "fq", "hijkmuvy", "longname", "new", "seq", "zz"]
theorem nm_sz : ∀ x ∈ NM, sh (.str x) = true ∧ sz (.str x) ≤ 12 := by
  have h : (NM.all fun x => sh (.str x) && decide (sz (.str x) ≤ 12)) = true := by decide +kernel
  intro x hx
  have := List.all_eq_true.mp h x hx
  simpa only [Bool.and_eq_true, decide_eq_true_eq] using this
theorem kw_sz : sz (.str "new") ≤ 12 ∧ sz (.str "use") ≤ 12 ∧ sz (.str "drop") ≤ 12 ∧ sz (.str "copy") ≤ 12 ∧ sz (.str "seq") ≤ 12 ∧ sz (.str "branch") ≤ 12 ∧ sz (.str "loop") ≤ 12 := by decide +kernel
theorem sh_str (x : Str) : sh (.str x) = true := rfl
mutual
theorem Tr.fit : ∀ t : Tr, t.ok NM → sh t.v = true ∧ sz t.v + 2 ≤ 62 * t.nodes ∧ Lr.dep t.v ≤ 2 * t.dep
  | .new x, k => by
    obtain ⟨h1, h2⟩ := nm_sz x k
    obtain ⟨k1, k2, k3, k4, k5, k6, k7⟩ := kw_sz
    refine ⟨rfl, ?_, by simp [Tr.v, Tr.dep, Lr.dep, depL]⟩
    simp only [Tr.v, sz, szL, Tr.nodes] at *
    omega
  | .use x, k => by
    obtain ⟨h1, h2⟩ := nm_sz x k
    obtain ⟨k1, k2, k3, k4, k5, k6, k7⟩ := kw_sz
    refine ⟨rfl, ?_, by simp [Tr.v, Tr.dep, Lr.dep, depL]⟩
    simp only [Tr.v, sz, szL, Tr.nodes] at *
    omega
  | .drop x, k => by
    obtain ⟨h1, h2⟩ := nm_sz x k
    obtain ⟨k1, k2, k3, k4, k5, k6, k7⟩ := kw_sz
    refine ⟨rfl, ?_, by simp [Tr.v, Tr.dep, Lr.dep, depL]⟩
    simp only [Tr.v, sz, szL, Tr.nodes] at *
    omega
  | .copy x y, k => by
    obtain ⟨h1, h2⟩ := nm_sz x k.1
    obtain ⟨h3, h4⟩ := nm_sz y k.2
    obtain ⟨k1, k2, k3, k4, k5, k6, k7⟩ := kw_sz
    refine ⟨rfl, ?_, by simp [Tr.v, Tr.dep, Lr.dep, depL]⟩
    simp only [Tr.v, sz, szL, Tr.nodes] at *
    omega
  | .seq ps, k => by
    obtain ⟨h1, h2, h3⟩ := Tr.fitL ps k.2
    obtain ⟨k1, k2, k3, k4, k5, k6, k7⟩ := kw_sz
    refine ⟨by simp [Tr.v, sh, shL, h1], ?_, ?_⟩
    · simp only [Tr.v, sz, szL, Tr.nodes] at *
      omega
    · simp only [Tr.v, Tr.dep, Lr.dep, depL] at *
      omega
  | .branch ps, k => by
    obtain ⟨h1, h2, h3⟩ := Tr.fitL ps k.2
    obtain ⟨k1, k2, k3, k4, k5, k6, k7⟩ := kw_sz
    refine ⟨by simp [Tr.v, sh, shL, h1], ?_, ?_⟩
    · simp only [Tr.v, sz, szL, Tr.nodes] at *
      omega
    · simp only [Tr.v, Tr.dep, Lr.dep, depL] at *
      omega
  | .loop p, k => by
    obtain ⟨h1, h2, h3⟩ := Tr.fit p k
    obtain ⟨k1, k2, k3, k4, k5, k6, k7⟩ := kw_sz
    refine ⟨by simp [Tr.v, sh, shL, h1], ?_, ?_⟩
    · simp only [Tr.v, sz, szL, Tr.nodes] at *
      omega
    · simp only [Tr.v, Tr.dep, Lr.dep, depL] at *
      omega
theorem Tr.fitL : ∀ ps : List Tr, Tr.oks NM ps → shL (Tr.vs ps) = true ∧ szL (Tr.vs ps) ≤ 62 * Tr.nodesL ps ∧ depL (Tr.vs ps) ≤ 2 * Tr.deps ps
  | [], _ => ⟨rfl, Nat.le_refl _, Nat.le_refl _⟩
  | p :: ps, k => by
    obtain ⟨h1, h2, h3⟩ := Tr.fit p k.1
    obtain ⟨g1, g2, g3⟩ := Tr.fitL ps k.2
    refine ⟨by simp [Tr.vs, shL, h1, g1], ?_, ?_⟩
    · simp only [Tr.vs, szL, Tr.nodesL]
      omega
    · simp only [Tr.vs, depL, Tr.deps]
      omega
end
theorem Tr.fits {t : Tr} {n d : Nat} (k : t.ok NM) (hn : t.nodes ≤ n) (hd : t.dep ≤ d) : Fit (62 * n) (2 * d) t.v := by
  obtain ⟨h1, h2, h3⟩ := Tr.fit t k
  exact ⟨h1, by omega, by omega⟩
mutual
theorem Tr.vpure : ∀ t : Tr, pure? t.v = true
  | .new x => rfl
  | .use x => rfl
  | .drop x => rfl
  | .copy x y => rfl
  | .seq ps => by simp [Tr.v, pure?, pureL, Tr.vpures ps]
  | .branch ps => by simp [Tr.v, pure?, pureL, Tr.vpures ps]
  | .loop p => by simp [Tr.v, pure?, pureL, Tr.vpure p]
theorem Tr.vpures : ∀ ps : List Tr, pureL (Tr.vs ps) = true
  | [] => rfl
  | p :: ps => by simp [Tr.vs, pureL, Tr.vpure p, Tr.vpures ps]
end
theorem Tr.vs_len (ps : List Tr) : (Tr.vs ps).length = ps.length := by rw [Tr.vs_map, List.length_map]
theorem Tr.vs_app (a b : List Tr) : Tr.vs (a ++ b) = Tr.vs a ++ Tr.vs b := by simp [Tr.vs_map]

section
variable {μ : Store} {Q : AV → Store → Prop}
theorem gEq_s {x y : Str} {b : Bool} (e : (x == y) = b) (h : Q (.bl b) μ) : wp (gEq (.str x) (.str y) μ) Q := w_gEq (r := b) (by simp [eqB, lsOf, eqv, e]) (by simp [depM, lsOf, dep]) h
theorem gNe_s {x y : Str} {b : Bool} (e : (x == y) = b) (h : Q (.bl (!b)) μ) : wp (gNe (.str x) (.str y) μ) Q := w_gNe (r := b) (by simp [eqB, lsOf, eqv, e]) (by simp [depM, lsOf, dep]) h
theorem gEq_i {i j : Int} (h : Q (.bl (i == j)) μ) : wp (gEq (.int i) (.int j) μ) Q := w_gEq (by simp [eqB, lsOf, eqv]) (by simp [depM, lsOf, dep]) h
theorem in_2 {x a b : Str} : inB (.str x) (.tup [.str a, .str b]) μ = some (a == x || b == x) := by
  simp [inB, seqOf, isD, isDL, dep, anyEq, eqv]
theorem in_3 {x a b c : Str} : inB (.str x) (.tup [.str a, .str b, .str c]) μ = some (a == x || (b == x || c == x)) := by
  simp [inB, seqOf, isD, isDL, dep, anyEq, eqv]
theorem gIn_2 {x a b : Str} {r : Bool} (e : (a == x || b == x) = r) (h : Q (.bl r) μ) : wp (gIn (.str x) (.tup [.str a, .str b]) μ) Q := by
  unfold gIn
  rw [in_2, e]
  exact h
theorem gNotIn_2 {x a b : Str} {r : Bool} (e : (a == x || b == x) = r) (h : Q (.bl (!r)) μ) : wp (gNotIn (.str x) (.tup [.str a, .str b]) μ) Q := by
  unfold gNotIn
  rw [in_2, e]
  exact h
theorem gNotIn_3 {x a b c : Str} {r : Bool} (e : (a == x || (b == x || c == x)) = r) (h : Q (.bl (!r)) μ) : wp (gNotIn (.str x) (.tup [.str a, .str b, .str c]) μ) Q := by
  unfold gNotIn
  rw [in_3, e]
  exact h
end
end Lr


namespace Lr
open PySem PySem.Spec L2
def Has (μ : Store) (l : Nat) (xs : List Str) : Prop := μ[l]? = some (.lst (xs.map AV.str))
theorem Has.stp {μ σ : Store} {n l : Nat} {xs : List Str} (h : Has μ l xs) (hl : l ≠ n) (s : Stp n μ σ) : Has σ l xs := (s.2 l hl).trans h
theorem Has.ext {μ σ : Store} {n l : Nat} {xs : List Str} (h : Has μ l xs) (hl : l ≠ n) (s : Ext n μ σ) : Has σ l xs := (s.2 l (List.getElem?_eq_some_iff.mp h).1 hl).trans h
theorem pure_strs : ∀ xs : List Str, pureL (xs.map AV.str) = true
  | [] => rfl
  | x :: xs => by rw [List.map_cons]; simp [pureL, pure?, pure_strs xs]

def DrawsN (f : Fn) (n l : Nat) (xs : List Str) (as : List AV) (j : Nat) (P : AV → Prop) : Prop := ∀ μ B, l ≠ n → Has μ l xs → B + j ≤ 1000000000 → Hst μ n B → wp (f as μ) fun v σ => Stp n μ σ ∧ Hst σ n (B + j) ∧ pure? v = true ∧ P v
theorem DrawsN.of {n l m k j : Nat} {xs : List Str} {b : AS} {as : List AV} {P : AV → Prop} (hl : as.length = m) (h : ∀ μ B, l ≠ n → Has μ l xs → B + j ≤ 1000000000 → Hst μ n B →
    wo (b (startA k as) μ) { rt := fun v σ => pure? v = true ∧ Ext n μ σ ∧ Hst σ n (B + j) ∧ P v }) : DrawsN (fnR k m b) n l xs as j P := fun μ B hln hx hb hs => by
  refine fn_wp hl ((h μ B hln hx hb hs).mono (fun _ _ h => False.elim h) (fun v σ ⟨h1, h2, h3, h4⟩ => ?_) (fun _ _ h => False.elim h) (fun _ _ h => False.elim h))
  obtain ⟨g1, g2, g3⟩ := h2.gc h3 hs.lt
  exact ⟨h1, g1, g2, g3, h1, h4⟩

theorem of_name {f : Fn} (h : OfOk2 f) {n l : Nat} {xs : List Str} (hne : xs ≠ []) (hz : xs.length ≤ 10) : DrawsN f n l xs [.loc n, .loc l] 1 (fun v => ∃ x, v = .str x ∧ x ∈ xs) := fun μ B hln hx hb hs => by
  refine (h n l (xs.map AV.str) μ B hln (by simpa using hne) (by rw [List.length_map]; omega) (pure_strs xs) hx hb hs).mono fun v σ ⟨s1, h1, pv, hm⟩ => ⟨s1, h1, pv, ?_⟩
  obtain ⟨x, hx, e⟩ := List.mem_map.mp hm
  exact ⟨x, e.symm, hx⟩
def NamesOk (f : Fn) : Prop := ∀ (n : Nat) (count : Int) μ B, 1 ≤ count → count ≤ 10 → B + 10 ≤ 1000000000 → Hst μ n B → wp (f [.loc n, .int count] μ) fun v σ => v = .loc μ.length ∧ Ext n μ σ ∧ Hst σ n (B + 10) ∧ ∃ xs : List Str, Has σ μ.length xs ∧ (xs.length : Int) = count ∧ xs.Sublist NM
theorem ixN_nn {n : Nat} {d : Int} (h0 : 0 ≤ d) (h1 : d < n) : ixN n d = some d.toNat := by
  unfold ixN
  simp [h0, h1]
theorem names_ok (T : Nat → Fn) (ht : TakeOk (T i2_law_take)) : NamesOk (fnR 3 2 (m7_law_names T)) := fun n count μ B c1 c2 hb hs => by
  have hn := hs.lt
  refine fn_wpN rfl ?_
  simp only [startA_s, List.map_cons, List.map_nil, List.length_cons, List.length_nil, Nat.reduceAdd, Nat.reduceSub, List.replicate_succ, List.replicate_zero, List.cons_append, List.nil_append]
  unfold m7_law_names
  (decreasing_trivial; repeat ((first | (with_reducible (refine w_len (by simp; done) ?_)) | (with_reducible (refine w_pow (by decide) (by decide) (by decide) ?_)) | fail); decreasing_trivial))
  refine wo_while (fun m ρ τ => ∃ xs : List Str, ρ = [some (.loc n), some (.int count), some (.loc μ.length)] ∧ Ext n μ τ ∧ Hst τ n (B + (10 - xs.length)) ∧ Has τ μ.length xs ∧ m = xs.length ∧ count ≤ xs.length ∧ xs.length ≤ 10 ∧ xs.Sublist NM) ?_ FUEL 10 _ _ (by unfold FUEL; omega) ⟨NM, rfl, (Ext.refl n μ).push _, (hs.push _).le (by omega), push_get, rfl, c2, Nat.le_refl _, List.Sublist.refl _⟩
  rintro m ρ τ ⟨xs, rfl, xt, h1, hx, rfl, hc, hz, hsub⟩
  (decreasing_trivial; repeat ((first | (with_reducible (refine w_len (by simp; done) ?_)) | (with_reducible (refine w_pow (by decide) (by decide) (by decide) ?_)) | fail); decreasing_trivial))
  refine w_lenO hx ?_
  (decreasing_trivial; repeat ((first | (with_reducible (refine w_len (by simp; done) ?_)) | (with_reducible (refine w_pow (by decide) (by decide) (by decide) ?_)) | fail); decreasing_trivial))
  refine ite_k (fun h => ?_) (fun h => ?_)
  · have h := of_decide_eq_true h
    rw [List.length_map] at h
    (decreasing_trivial; repeat ((first | (with_reducible (refine w_len (by simp; done) ?_)) | (with_reducible (refine w_pow (by decide) (by decide) (by decide) ?_)) | fail); decreasing_trivial))
    refine ⟨by simp [isLs, lsOf, show τ[μ.length]? = _ from hx], ?_⟩
    (decreasing_trivial; repeat ((first | (with_reducible (refine w_len (by simp; done) ?_)) | (with_reducible (refine w_pow (by decide) (by decide) (by decide) ?_)) | fail); decreasing_trivial))
    refine w_lenO hx ?_
    (decreasing_trivial; repeat ((first | (with_reducible (refine w_len (by simp; done) ?_)) | (with_reducible (refine w_pow (by decide) (by decide) (by decide) ?_)) | fail); decreasing_trivial))
    rw [List.length_map]
    refine (ht n xs.length (by omega) (by omega) τ _ (by omega) h1).mono fun v σ ⟨s1, h2, pv, d, e, d0, d1⟩ => ?_
    subst e
    have hx2 := hx.stp (by omega) s1
    have hd : d.toNat < xs.length := by omega
    refine ⟨μ.length, _, d, d.toNat, .str (xs[d.toNat]), rfl, rfl, hx2, by rw [List.length_map]; exact ixN_nn d0 d1, by rw [List.length_map]; omega, by rw [List.getElem?_map, List.getElem?_eq_getElem hd]; rfl, ?_⟩
    have hl2 : (xs.eraseIdx d.toNat).length = xs.length - 1 := by rw [List.length_eraseIdx]; simp [hd]
    refine ⟨(xs.eraseIdx d.toNat).length, by omega, xs.eraseIdx d.toNat, rfl, (xt.step s1).set _ (.inl (Nat.le_refl _)), (h2.set _ (by omega)).le (by omega), ?_, rfl, by omega, by omega, (List.eraseIdx_sublist xs d.toNat).trans hsub⟩
    unfold Has
    rw [List.getElem?_set_self (List.getElem?_eq_some_iff.mp hx2).1, List.eraseIdx_eq_take_drop_succ, List.eraseIdx_eq_take_drop_succ, List.map_append, List.map_take, List.map_drop]
  · have h := of_decide_eq_false h
    rw [List.length_map] at h
    (decreasing_trivial; repeat ((first | (with_reducible (refine w_len (by simp; done) ?_)) | (with_reducible (refine w_pow (by decide) (by decide) (by decide) ?_)) | fail); decreasing_trivial))
    exact ⟨by simp [bel], rfl, xt, h1.le (by omega), xs, hx, by omega, hsub⟩
def InsOk (f : Fn) : Prop := ∀ (n l : Nat) (xs : List Str), xs ≠ [] → xs.length ≤ 10 → DrawsN f n l xs [.loc n, .loc l] 4 (fun v => ∃ t : Tr, v = t.v ∧ t.leaf = true ∧ t.ok xs)
theorem instr_ok (T : Nat → Fn) (ht : TakeOk (T i2_law_take)) (ho : OfOk2 (T i3_law_of)) : InsOk (fnR 4 2 (m4_law_instruction T)) := fun n l xs hne hz => by
  refine DrawsN.of rfl fun μ B hln hx hb hs => ?_
  simp only [startA_s, List.map_cons, List.map_nil, List.length_cons, List.length_nil, Nat.reduceAdd, Nat.reduceSub, List.replicate_succ, List.replicate_zero, List.cons_append, List.nil_append]
  unfold m4_law_instruction
  (decreasing_trivial; repeat ((first | (with_reducible (refine w_len (by simp; done) ?_)) | (with_reducible (refine w_pow (by decide) (by decide) (by decide) ?_)) | fail); decreasing_trivial))
  refine (ht n 10 (by decide) (by decide) μ B (by omega) hs).mono fun v σ ⟨s1, h1, _, d, e, d0, d1⟩ => ?_
  subst e
  (decreasing_trivial; repeat ((first | (with_reducible (refine w_len (by simp; done) ?_)) | (with_reducible (refine w_pow (by decide) (by decide) (by decide) ?_)) | fail); decreasing_trivial))
  refine (of_name ho hne hz σ _ hln (hx.stp hln s1) (by omega) h1).mono fun v σ2 ⟨s2, h2, _, x, e, hx1⟩ => ?_
  subst e
  have t2 := s1.ext.step s2
  (decreasing_trivial; repeat ((first | (with_reducible (refine w_len (by simp; done) ?_)) | (with_reducible (refine w_pow (by decide) (by decide) (by decide) ?_)) | fail); decreasing_trivial))
  refine ite_k (fun h => ?_) (fun h => ?_)
  · (decreasing_trivial; repeat ((first | (with_reducible (refine w_len (by simp; done) ?_)) | (with_reducible (refine w_pow (by decide) (by decide) (by decide) ?_)) | fail); decreasing_trivial))
    exact ⟨rfl, t2, h2.le (by omega), .new x, rfl, rfl, hx1⟩
  · (decreasing_trivial; repeat ((first | (with_reducible (refine w_len (by simp; done) ?_)) | (with_reducible (refine w_pow (by decide) (by decide) (by decide) ?_)) | fail); decreasing_trivial))
    refine ite_k (fun h => ?_) (fun h => ?_)
    · (decreasing_trivial; repeat ((first | (with_reducible (refine w_len (by simp; done) ?_)) | (with_reducible (refine w_pow (by decide) (by decide) (by decide) ?_)) | fail); decreasing_trivial))
      refine (of_name ho hne hz σ2 _ hln ((hx.stp hln s1).stp hln s2) (by omega) h2).mono fun v σ3 ⟨s3, h3, _, y, e, hy1⟩ => ?_
      subst e
      (decreasing_trivial; repeat ((first | (with_reducible (refine w_len (by simp; done) ?_)) | (with_reducible (refine w_pow (by decide) (by decide) (by decide) ?_)) | fail); decreasing_trivial))
      exact ⟨rfl, t2.step s3, h3.le (by omega), .copy y x, rfl, rfl, hy1, hx1⟩
    · (decreasing_trivial; repeat ((first | (with_reducible (refine w_len (by simp; done) ?_)) | (with_reducible (refine w_pow (by decide) (by decide) (by decide) ?_)) | fail); decreasing_trivial))
      refine ite_k (fun h => ?_) (fun h => ?_)
      · (decreasing_trivial; repeat ((first | (with_reducible (refine w_len (by simp; done) ?_)) | (with_reducible (refine w_pow (by decide) (by decide) (by decide) ?_)) | fail); decreasing_trivial))
        exact ⟨rfl, t2, h2.le (by omega), .use x, rfl, rfl, hx1⟩
      · (decreasing_trivial; repeat ((first | (with_reducible (refine w_len (by simp; done) ?_)) | (with_reducible (refine w_pow (by decide) (by decide) (by decide) ?_)) | fail); decreasing_trivial))
        exact ⟨rfl, t2, h2.le (by omega), .drop x, rfl, rfl, hx1⟩
theorem leaf_dep {t : Tr} (h : t.leaf = true) : t.dep = 1 := by cases t <;> first | rfl | cases h
theorem leaf_ins {t : Tr} (h : t.leaf = true) : t.ins = [t] := by cases t <;> first | rfl | cases h
theorem leaf_nodes {t : Tr} (h : t.leaf = true) : t.nodes = 1 := by cases t <;> first | rfl | cases h
def TreeOk (f : Fn) (d : Nat) : Prop := ∀ (n l : Nat) (xs : List Str) (s : Int), xs ≠ [] → xs.length ≤ 10 → 1 ≤ s → s ≤ 100 → DrawsN f n l xs [.loc n, .loc l, .int s, .int d] (4 * (s.toNat * (d + 1))) (fun v => ∃ t : Tr, v = t.v ∧ t.ok xs ∧ t.dep ≤ d ∧ t.ins.length ≤ s.toNat)
theorem tree_step {s : Int} {m : Int} (h0 : 2 ≤ s) (h1 : 2 ≤ m) (h2 : m ≤ s) : 1 ≤ s / m ∧ s / m ≤ s ∧ m.toNat * (s / m).toNat ≤ s.toNat := by
  have a1 : 1 ≤ s / m := (Int.le_ediv_iff_mul_le (by omega)).mpr (by omega)
  have a2 : m * (s / m) ≤ s := Int.mul_ediv_self_le (by omega)
  have a3 : s / m ≤ s := Int.ediv_le_self _ (by omega)
  refine ⟨a1, a3, ?_⟩
  have : ((m.toNat * (s / m).toNat : Nat) : Int) ≤ s := by
    rw [Int.natCast_mul, Int.toNat_of_nonneg (by omega), Int.toNat_of_nonneg (by omega)]
    exact a2
  omega
theorem tree_ok (T : Nat → Fn) (ht : TakeOk (T i2_law_take)) (ho : OfOk (T i3_law_of)) (hi : InsOk (T i4_law_instruction)) (d : Nat) (ih : 1 ≤ d → TreeOk (T i5_law_tree) d) : TreeOk (fnR 9 4 (m5_law_tree T)) (d + 1) := fun n l xs s hne hz s1 s2 => by
  refine DrawsN.of rfl fun μ B hln hx hb hs => ?_
  have big0 : 1 * 2 ≤ s.toNat * (d + 1 + 1) := Nat.mul_le_mul (by omega) (by omega)
  have big : 8 ≤ 4 * (s.toNat * (d + 1 + 1)) := by omega
  have big2 : 4 * (s.toNat * (d + 1)) + 4 ≤ 4 * (s.toNat * (d + 1 + 1)) := by
    rw [Nat.mul_succ s.toNat (d + 1)]
    omega
  simp only [startA_s, List.map_cons, List.map_nil, List.length_cons, List.length_nil, Nat.reduceAdd, Nat.reduceSub, List.replicate_succ, List.replicate_zero, List.cons_append, List.nil_append]
  unfold m5_law_tree
  refine o_seq2 (fun ρ1 σ => Stp n μ σ ∧ Hst σ n (B + 1) ∧ ∃ w : Int, 0 ≤ w ∧ ρ1 = [some (.loc n), some (.loc l), some (.int s), some (.int ((d + 1 : Nat) : Int)), some (.int w), none, none, none, none]) ?_ ?_
  · (decreasing_trivial; repeat ((first | (with_reducible (refine w_len (by simp; done) ?_)) | (with_reducible (refine w_pow (by decide) (by decide) (by decide) ?_)) | fail); decreasing_trivial))
    refine (ht n 8 (by decide) (by decide) μ B (by omega) hs).mono fun v σ ⟨s1, h1, _, w, e, d0, d1⟩ => ?_
    subst e
    exact ⟨s1, h1, w, d0, rfl⟩
  · rintro ρ1 σ ⟨t1, h1, w, w0, rfl⟩
    have hx1 := hx.stp hln t1
    refine o_seq2 (fun ρ1 τ => τ = σ ∧ 2 ≤ s ∧ 2 ≤ d + 1 ∧ ρ1 = [some (.loc n), some (.loc l), some (.int s), some (.int ((d + 1 : Nat) : Int)), some (.int w), none, none, none, none]) ?_ ?_
    · have inst : ∀ D : Kt, (∀ v σ, (pure? v = true ∧ Ext n μ σ ∧ Hst σ n (B + 4 * (s.toNat * (d + 1 + 1))) ∧ ∃ t : Tr, v = t.v ∧ t.ok xs ∧ t.dep ≤ d + 1 ∧ t.ins.length ≤ s.toNat) → D.rt v σ) →
          wo (sRet (eCall (T i4_law_instruction) (aCons (eVar 0) (aCons (eVar 1) aNil))) [some (.loc n), some (.loc l), some (.int s), some (.int ((d + 1 : Nat) : Int)), some (.int w), none, none, none, none] σ) D := fun D hD => by
        (decreasing_trivial; repeat ((first | (with_reducible (refine w_len (by simp; done) ?_)) | (with_reducible (refine w_pow (by decide) (by decide) (by decide) ?_)) | fail); decreasing_trivial))
        refine (hi n l xs hne hz σ _ hln hx1 (by omega) h1).mono fun v σ2 ⟨s2, h2, pv, t, e, hf, hk⟩ => ?_
        exact hD _ _ ⟨pv, t1.ext.step s2, h2.le (by omega), t, e, hk, by rw [leaf_dep hf]; omega, by rw [leaf_ins hf]; simp; omega⟩
      (decreasing_trivial; repeat ((first | (with_reducible (refine w_len (by simp; done) ?_)) | (with_reducible (refine w_pow (by decide) (by decide) (by decide) ?_)) | fail); decreasing_trivial))
      refine ite_k (fun h => ?_) (fun h => ?_)
      · exact inst _ fun v σ h => h
      · have h2 := of_decide_eq_false h
        (decreasing_trivial; repeat ((first | (with_reducible (refine w_len (by simp; done) ?_)) | (with_reducible (refine w_pow (by decide) (by decide) (by decide) ?_)) | fail); decreasing_trivial))
        refine ite_k (fun h => ?_) (fun h => ?_)
        · exact inst _ fun v σ h => h
        · have h3 := of_decide_eq_false h
          (decreasing_trivial; repeat ((first | (with_reducible (refine w_len (by simp; done) ?_)) | (with_reducible (refine w_pow (by decide) (by decide) (by decide) ?_)) | fail); decreasing_trivial))
          refine gEq_i ?_
          (decreasing_trivial; repeat ((first | (with_reducible (refine w_len (by simp; done) ?_)) | (with_reducible (refine w_pow (by decide) (by decide) (by decide) ?_)) | fail); decreasing_trivial))
          refine ite_k (fun h => ?_) (fun h => ?_)
          · exact inst _ fun v σ h => h
          · (decreasing_trivial; repeat ((first | (with_reducible (refine w_len (by simp; done) ?_)) | (with_reducible (refine w_pow (by decide) (by decide) (by decide) ?_)) | fail); decreasing_trivial))
            exact ⟨rfl, by omega, by omega, rfl⟩
    · rintro ρ2 τ ⟨rfl, hs2, hd2, rfl⟩
      have ih := ih (by omega)
      have ed : ((d + 1 : Nat) : Int) - 1 = (d : Int) := by omega
      (decreasing_trivial; repeat ((first | (with_reducible (refine w_len (by simp; done) ?_)) | (with_reducible (refine w_pow (by decide) (by decide) (by decide) ?_)) | fail); decreasing_trivial))
      refine gEq_i ?_
      (decreasing_trivial; repeat ((first | (with_reducible (refine w_len (by simp; done) ?_)) | (with_reducible (refine w_pow (by decide) (by decide) (by decide) ?_)) | fail); decreasing_trivial))
      refine ite_k (fun h => ?_) (fun h => ?_)
      · (decreasing_trivial; repeat ((first | (with_reducible (refine w_len (by simp; done) ?_)) | (with_reducible (refine w_pow (by decide) (by decide) (by decide) ?_)) | fail); decreasing_trivial))
        rw [ed]
        refine (ih n l xs s hne hz s1 s2 τ _ hln hx1 (by omega) h1).mono fun v σ2 ⟨s2, h2, pv, t, e, hk, hd, hi2⟩ => ?_
        subst e
        (decreasing_trivial; repeat ((first | (with_reducible (refine w_len (by simp; done) ?_)) | (with_reducible (refine w_pow (by decide) (by decide) (by decide) ?_)) | fail); decreasing_trivial))
        exact ⟨by simp [pure?, pureL, pv], t1.ext.step s2, h2.le (by omega), .loop t, rfl, hk, by simp only [Tr.dep]; omega, hi2⟩
      · refine o_seq2 (fun ρ1 σ2 => Stp n τ σ2 ∧ Hst σ2 n (B + 2) ∧ ∃ m : Int, 2 ≤ m ∧ m ≤ s ∧ m ≤ 18 ∧ (w < 4 → m ≤ 5) ∧ ρ1 = [some (.loc n), some (.loc l), some (.int s), some (.int ((d + 1 : Nat) : Int)), some (.int w), some (.int m), none, none, none]) ?_ ?_
        · (decreasing_trivial; repeat ((first | (with_reducible (refine w_len (by simp; done) ?_)) | (with_reducible (refine w_pow (by decide) (by decide) (by decide) ?_)) | fail); decreasing_trivial))
          refine ite_k (fun h => ?_) (fun h => ?_)
          · have h := of_decide_eq_true h
            (decreasing_trivial; repeat ((first | (with_reducible (refine w_len (by simp; done) ?_)) | (with_reducible (refine w_pow (by decide) (by decide) (by decide) ?_)) | fail); decreasing_trivial))
            refine (ho n _ (by simp) (by simp) rfl τ _ (by omega) h1).mono fun v σ2 ⟨s2', h2, pv, hv⟩ => ?_
            obtain ⟨r, e, r1, r2⟩ : ∃ r : Int, v = .int r ∧ 2 ≤ r ∧ r ≤ 18 := by
              simp only [List.mem_cons, List.not_mem_nil, or_false] at hv
              rcases hv with h | h | h | h | h | h | h <;> exact ⟨_, h, by decide, by decide⟩
            subst e
            (decreasing_trivial; repeat ((first | (with_reducible (refine w_len (by simp; done) ?_)) | (with_reducible (refine w_pow (by decide) (by decide) (by decide) ?_)) | fail); decreasing_trivial))
            have q1 : 2 ≤ (if r < s then r else s) ∧ (if r < s then r else s) ≤ s ∧ (if r < s then r else s) ≤ r := by split <;> omega
            exact ⟨s2', h2, _, q1.1, q1.2.1, by omega, fun _ => by omega, rfl⟩
          · have h := of_decide_eq_false h
            (decreasing_trivial; repeat ((first | (with_reducible (refine w_len (by simp; done) ?_)) | (with_reducible (refine w_pow (by decide) (by decide) (by decide) ?_)) | fail); decreasing_trivial))
            refine (ho n _ (by simp) (by simp) rfl τ _ (by omega) h1).mono fun v σ2 ⟨s2', h2, pv, hv⟩ => ?_
            obtain ⟨r, e, r1, r2⟩ : ∃ r : Int, v = .int r ∧ 2 ≤ r ∧ r ≤ 5 := by
              simp only [List.mem_cons, List.not_mem_nil, or_false] at hv
              rcases hv with h | h | h | h | h | h | h <;> exact ⟨_, h, by decide, by decide⟩
            subst e
            (decreasing_trivial; repeat ((first | (with_reducible (refine w_len (by simp; done) ?_)) | (with_reducible (refine w_pow (by decide) (by decide) (by decide) ?_)) | fail); decreasing_trivial))
            have q1 : 2 ≤ (if r < s then r else s) ∧ (if r < s then r else s) ≤ s ∧ (if r < s then r else s) ≤ r := by split <;> omega
            exact ⟨s2', h2, _, q1.1, q1.2.1, by omega, fun _ => by omega, rfl⟩
        · rintro ρ3 σ2 ⟨t2, h2, m, m1, m2, m3, m4, rfl⟩
          have hx2 := hx1.stp hln t2
          obtain ⟨q1, q2, q3⟩ := tree_step hs2 m1 m2
          have q4 : m.toNat * (4 * ((s / m).toNat * (d + 1))) ≤ 4 * (s.toNat * (d + 1)) := by
            rw [Nat.mul_left_comm, ← Nat.mul_assoc m.toNat]
            exact Nat.mul_le_mul_left 4 (Nat.mul_le_mul_right _ q3)
          refine o_seq2 (fun ρ1 σ3 => Stp n σ2 σ3 ∧ Hst σ3 n (B + 2 + 4 * (s.toNat * (d + 1))) ∧ ∃ ts : List Tr, (ts.length : Int) = m ∧ Tr.oks xs ts ∧ Tr.deps ts ≤ d ∧ (Tr.insL ts).length ≤ s.toNat ∧ ρ1 = [some (.loc n), some (.loc l), some (.int s), some (.int ((d + 1 : Nat) : Int)), some (.int w), some (.int m), some (.tup (Tr.vs ts)), none, none]) ?_ ?_
          · (decreasing_trivial; repeat ((first | (with_reducible (refine w_len (by simp; done) ?_)) | (with_reducible (refine w_pow (by decide) (by decide) (by decide) ?_)) | fail); decreasing_trivial))
            refine ⟨by omega, by omega, ?_⟩
            have hrl : (rangeL 0 m.toNat).length = m.toNat := by simp [rangeL]
            refine wp_lc (fun i acc σ3 => Stp n σ2 σ3 ∧ Hst σ3 n (B + 2 + i * (4 * ((s / m).toNat * (d + 1)))) ∧ ∃ ts : List Tr, acc = Tr.vs ts ∧ ts.length = i ∧ Tr.oks xs ts ∧ Tr.deps ts ≤ d ∧ (Tr.insL ts).length ≤ i * (s / m).toNat) (by rw [hrl]; omega) ?_ ?_ ?_ FUEL 0 _ _ (by rw [hrl]; unfold FUEL; omega) (by omega) ⟨Stp.refl n σ2, by simpa using h2, [], rfl, rfl, trivial, Nat.zero_le _, Nat.zero_le _⟩
            · rintro i acc σ3 ⟨_, _, ts, rfl, hl, _⟩
              rw [Tr.vs_len, hl]
            · rintro acc σ3 ⟨t3, h3, ts, rfl, hl, hk, hd, hi2⟩
              rw [hrl] at hl h3 hi2
              (decreasing_trivial; repeat ((first | (with_reducible (refine w_len (by simp; done) ?_)) | (with_reducible (refine w_pow (by decide) (by decide) (by decide) ?_)) | fail); decreasing_trivial))
              exact ⟨t3, h3.le (by omega), ts, by omega, hk, hd, Nat.le_trans hi2 q3, rfl⟩
            · rintro i v acc σ3 hv ⟨t3, h3, ts, rfl, hl, hk, hd, hi2⟩
              obtain ⟨rfl, hi3⟩ := rng_mem hv
              refine ⟨_, rfl, ?_⟩
              have q5 : i * (4 * ((s / m).toNat * (d + 1))) + 4 * ((s / m).toNat * (d + 1)) ≤ 4 * (s.toNat * (d + 1)) := by
                rw [← Nat.succ_mul]
                exact Nat.le_trans (Nat.mul_le_mul_right _ (by omega)) q4
              (decreasing_trivial; repeat ((first | (with_reducible (refine w_len (by simp; done) ?_)) | (with_reducible (refine w_pow (by decide) (by decide) (by decide) ?_)) | fail); decreasing_trivial))
              refine w_div (by omega) (by omega) ?_
              (decreasing_trivial; repeat ((first | (with_reducible (refine w_len (by simp; done) ?_)) | (with_reducible (refine w_pow (by decide) (by decide) (by decide) ?_)) | fail); decreasing_trivial))
              rw [ed]
              refine (ih n l xs (s / m) hne hz q1 (by omega) σ3 _ hln (hx2.stp hln t3) (by omega) h3).mono fun v σ4 ⟨t4, h4, pv, t, e, hk2, hd2, hi4⟩ => ?_
              subst e
              refine ⟨t3.trans t4, h4.le (by have := Nat.add_mul i 1 (4 * ((s / m).toNat * (d + 1))); omega), ts ++ [t], by simp [Tr.vs_map], by simp [hl], ?_, ?_, ?_⟩
              · rw [Tr.oks_app]
                exact ⟨hk, hk2, trivial⟩
              · rw [Tr.deps_iff]
                intro p hp
                rcases List.mem_append.mp hp with hp | hp
                · exact Tr.deps_iff.mp hd p hp
                · rw [List.mem_singleton.mp hp]
                  exact hd2
              · rw [Tr.insL_app, List.length_append, Nat.succ_mul]
                simp only [Tr.insL, List.append_nil]
                omega
          · rintro ρ4 σ3 ⟨t3, h3, ts, hl, hk, hd, hi2, rfl⟩
            have pvs := Tr.vpures ts
            have xt : Ext n μ σ3 := ((t1.ext.step t2).step t3)
            (decreasing_trivial; repeat ((first | (with_reducible (refine w_len (by simp; done) ?_)) | (with_reducible (refine w_pow (by decide) (by decide) (by decide) ?_)) | fail); decreasing_trivial))
            refine ite_k (fun h => ?_) (fun h => ?_)
            · have h := of_decide_eq_true h
              (decreasing_trivial; repeat ((first | (with_reducible (refine w_len (by simp; done) ?_)) | (with_reducible (refine w_pow (by decide) (by decide) (by decide) ?_)) | fail); decreasing_trivial))
              refine (ht n 3 (by decide) (by decide) σ3 _ (by omega) h3).mono fun v σ4 ⟨s4, h4, _, z, e, z0, z1⟩ => ?_
              subst e
              (decreasing_trivial; repeat ((first | (with_reducible (refine w_len (by simp; done) ?_)) | (with_reducible (refine w_pow (by decide) (by decide) (by decide) ?_)) | fail); decreasing_trivial))
              refine gEq_i ?_
              (decreasing_trivial; repeat ((first | (with_reducible (refine w_len (by simp; done) ?_)) | (with_reducible (refine w_pow (by decide) (by decide) (by decide) ?_)) | fail); decreasing_trivial))
              cases hb2 : (z == 0)
              · refine w_mulT (by simp) (by decide) (by decide) (by simp) ?_
                (decreasing_trivial; repeat ((first | (with_reducible (refine w_len (by simp; done) ?_)) | (with_reducible (refine w_pow (by decide) (by decide) (by decide) ?_)) | fail); decreasing_trivial))
                refine w_addT (by simp [Tr.vs_len]; omega) ?_
                have e1 : Tr.vs ts ++ (List.replicate (Int.toNat (if false = true then 1 else 0)) [AV.tup [.str "seq", .tup []]]).flatten = Tr.vs ts := by simp
                rw [e1]
                (decreasing_trivial; repeat ((first | (with_reducible (refine w_len (by simp; done) ?_)) | (with_reducible (refine w_pow (by decide) (by decide) (by decide) ?_)) | fail); decreasing_trivial))
                exact ⟨by simp [pure?, pureL, pvs], xt.step s4, h4.le (by omega), .branch ts, rfl, ⟨⟨by omega, by have := m4 h; omega⟩, hk⟩, by simp only [Tr.dep]; omega, hi2⟩
              · refine w_mulT (by simp) (by decide) (by decide) (by simp) ?_
                (decreasing_trivial; repeat ((first | (with_reducible (refine w_len (by simp; done) ?_)) | (with_reducible (refine w_pow (by decide) (by decide) (by decide) ?_)) | fail); decreasing_trivial))
                refine w_addT (by simp [Tr.vs_len]; omega) ?_
                have e1 : Tr.vs ts ++ (List.replicate (Int.toNat (if true = true then 1 else 0)) [AV.tup [.str "seq", .tup []]]).flatten = Tr.vs (ts ++ [.seq []]) := by simp [Tr.vs_map, Tr.v, Tr.vs]
                rw [e1]
                (decreasing_trivial; repeat ((first | (with_reducible (refine w_len (by simp; done) ?_)) | (with_reducible (refine w_pow (by decide) (by decide) (by decide) ?_)) | fail); decreasing_trivial))
                refine ⟨by simp [pure?, pureL, Tr.vpures], xt.step s4, h4.le (by omega), .branch (ts ++ [.seq []]), rfl, ⟨⟨by simp, by have := m4 h; simp; omega⟩, ?_⟩, ?_, ?_⟩
                · rw [Tr.oks_app]
                  exact ⟨hk, ⟨Nat.zero_le _, trivial⟩, trivial⟩
                · simp only [Tr.dep]
                  have : Tr.deps (ts ++ [.seq []]) ≤ d := by
                    rw [Tr.deps_iff]
                    intro p hp
                    rcases List.mem_append.mp hp with hp | hp
                    · exact Tr.deps_iff.mp hd p hp
                    · rw [List.mem_singleton.mp hp]
                      simp [Tr.dep, Tr.deps]
                      omega
                  omega
                · simp only [Tr.ins, Tr.insL_app]
                  simpa [Tr.insL, Tr.ins] using hi2
            · (decreasing_trivial; repeat ((first | (with_reducible (refine w_len (by simp; done) ?_)) | (with_reducible (refine w_pow (by decide) (by decide) (by decide) ?_)) | fail); decreasing_trivial))
              exact ⟨by simp [pure?, pureL, pvs], xt, h3.le (by omega), .seq ts, rfl, ⟨by omega, hk⟩, by simp only [Tr.dep]; omega, hi2⟩
end Lr

namespace Lr
open PySem PySem.Spec L2
def NodesOk (f : Fn) (d : Nat) : Prop := ∀ (N : List Str) (t : Tr), t.ok N → t.dep ≤ d → Pure1 f [t.v] (.int (t.nodes : Nat))
theorem sum_nat (ns : List Nat) : (ns.map fun n : Nat => (n : Int)).sum = (ns.sum : Nat) := by
  induction ns with
  | nil => rfl
  | cons a b ih => rw [List.map_cons, List.sum_cons, List.sum_cons, ih, Int.natCast_add]
theorem ints_nat : ∀ ns : List Int, intsOf (ns.map AV.int) = some ns
  | [] => rfl
  | n :: ns => by simp only [List.map_cons, intsOf, ints_nat ns, Option.map_some]

theorem parts_lc {f : Fn} {ps : List Tr} {r : Tr → AV} {ρ : Loc} {μ : Store} {Q : List AV → Store → Prop} {g : AG} {te : AE} (hl : ps.length ≤ 100) (hf : ∀ p ∈ ps, ∀ σ, ∃ ρ1, g p.v ρ = some ρ1 ∧ wp (te ρ1 σ) fun v τ => v = r p ∧ τ = σ)
    (h : Q (ps.map r) μ) : wp (lcF g tTrue te (.dat (Tr.vs ps)) FUEL 0 ρ [] μ) Q := by
  have hlen := Tr.vs_len ps
  refine wp_lc (fun i acc σ => σ = μ ∧ acc = (ps.take i).map r ∧ i ≤ ps.length) (by omega) ?_ ?_ ?_ FUEL 0 _ _ (by unfold FUEL; omega) (by omega) ⟨rfl, by simp, by omega⟩
  · rintro i acc σ ⟨_, rfl, hi⟩
    rw [List.length_map, List.length_take, Nat.min_eq_left hi]
  · rintro acc σ ⟨rfl, rfl, _⟩
    rw [hlen, List.take_length]
    exact h
  · rintro i v acc σ hv ⟨rfl, rfl, hi⟩
    rw [Tr.vs_map, List.getElem?_map] at hv
    obtain ⟨p, hp, rfl⟩ := Option.map_eq_some_iff.mp hv
    obtain ⟨ρ1, eg, hw⟩ := hf p (List.mem_of_getElem? hp) σ
    refine ⟨ρ1, eg, hw.mono fun v τ ⟨e1, e2⟩ => ?_⟩
    subst e1 e2
    refine ⟨rfl, ?_, (List.getElem?_eq_some_iff.mp hp).1⟩
    rw [List.take_add_one, hp, List.map_append]
    rfl
theorem atI_0 {γ : Type} {x : γ} {r : List γ} : atI (x :: r) 0 = some x := by simp [atI, ixN]
theorem nodes_ok (T : Nat → Fn) (d : Nat) (ih : NodesOk (T i6_law_nodes) d) : NodesOk (fnR 2 1 (m6_law_nodes T)) (d + 1) := fun N t k hd => Pure1.of rfl fun μ => by
  have leaf : ∀ a r, (a == ("loop" : Str)) = false → (("seq" : Str) == a || ("branch" : Str) == a) = false → wo (m6_law_nodes T [some (.tup (.str a :: r)), none] μ) { rt := fun v σ => σ = μ ∧ pure? v = true ∧ v = .int 1 } := fun a r h1 h2 => by
    unfold m6_law_nodes
    (decreasing_trivial; repeat ((first | (with_reducible (refine w_len (by simp; done) ?_)) | (with_reducible (refine w_pow (by decide) (by decide) (by decide) ?_)) | fail); decreasing_trivial))
    refine w_ixT atI_0 ?_
    (decreasing_trivial; repeat ((first | (with_reducible (refine w_len (by simp; done) ?_)) | (with_reducible (refine w_pow (by decide) (by decide) (by decide) ?_)) | fail); decreasing_trivial))
    refine gEq_s h1 ?_
    (decreasing_trivial; repeat ((first | (with_reducible (refine w_len (by simp; done) ?_)) | (with_reducible (refine w_pow (by decide) (by decide) (by decide) ?_)) | fail); decreasing_trivial))
    rw [if_neg (by simp)]
    (decreasing_trivial; repeat ((first | (with_reducible (refine w_len (by simp; done) ?_)) | (with_reducible (refine w_pow (by decide) (by decide) (by decide) ?_)) | fail); decreasing_trivial))
    refine w_ixT atI_0 ?_
    (decreasing_trivial; repeat ((first | (with_reducible (refine w_len (by simp; done) ?_)) | (with_reducible (refine w_pow (by decide) (by decide) (by decide) ?_)) | fail); decreasing_trivial))
    refine gIn_2 h2 ?_
    (decreasing_trivial; repeat ((first | (with_reducible (refine w_len (by simp; done) ?_)) | (with_reducible (refine w_pow (by decide) (by decide) (by decide) ?_)) | fail); decreasing_trivial))
    rw [if_neg (by simp)]
    (decreasing_trivial; repeat ((first | (with_reducible (refine w_len (by simp; done) ?_)) | (with_reducible (refine w_pow (by decide) (by decide) (by decide) ?_)) | fail); decreasing_trivial))
    exact ⟨rfl, rfl, rfl⟩
  have many : ∀ a (ps : List Tr), (a == ("loop" : Str)) = false → (("seq" : Str) == a || ("branch" : Str) == a) = true → ps.length ≤ 20 → Tr.oks N ps → Tr.deps ps ≤ d → wo (m6_law_nodes T [some (.tup [.str a, .tup (Tr.vs ps)]), none] μ) { rt := fun v σ => σ = μ ∧ pure? v = true ∧ v = .int ((Tr.nodesL ps + 1 : Nat) : Int) } := fun a ps h1 h2 hl hk hdp => by
    unfold m6_law_nodes
    (decreasing_trivial; repeat ((first | (with_reducible (refine w_len (by simp; done) ?_)) | (with_reducible (refine w_pow (by decide) (by decide) (by decide) ?_)) | fail); decreasing_trivial))
    refine w_ixT rfl ?_
    (decreasing_trivial; repeat ((first | (with_reducible (refine w_len (by simp; done) ?_)) | (with_reducible (refine w_pow (by decide) (by decide) (by decide) ?_)) | fail); decreasing_trivial))
    refine gEq_s h1 ?_
    (decreasing_trivial; repeat ((first | (with_reducible (refine w_len (by simp; done) ?_)) | (with_reducible (refine w_pow (by decide) (by decide) (by decide) ?_)) | fail); decreasing_trivial))
    rw [if_neg (by simp)]
    (decreasing_trivial; repeat ((first | (with_reducible (refine w_len (by simp; done) ?_)) | (with_reducible (refine w_pow (by decide) (by decide) (by decide) ?_)) | fail); decreasing_trivial))
    refine w_ixT rfl ?_
    (decreasing_trivial; repeat ((first | (with_reducible (refine w_len (by simp; done) ?_)) | (with_reducible (refine w_pow (by decide) (by decide) (by decide) ?_)) | fail); decreasing_trivial))
    refine gIn_2 h2 ?_
    (decreasing_trivial; repeat ((first | (with_reducible (refine w_len (by simp; done) ?_)) | (with_reducible (refine w_pow (by decide) (by decide) (by decide) ?_)) | fail); decreasing_trivial))
    rw [if_pos rfl]
    (decreasing_trivial; repeat ((first | (with_reducible (refine w_len (by simp; done) ?_)) | (with_reducible (refine w_pow (by decide) (by decide) (by decide) ?_)) | fail); decreasing_trivial))
    refine w_anyT ?_
    refine w_op ?_
    (decreasing_trivial; repeat ((first | (with_reducible (refine w_len (by simp; done) ?_)) | (with_reducible (refine w_pow (by decide) (by decide) (by decide) ?_)) | fail); decreasing_trivial))
    refine w_ixT rfl ?_
    refine ⟨_, rfl, ?_⟩
    refine parts_lc (f := T i6_law_nodes) (r := fun p => .int (p.nodes : Nat)) (by omega) (fun p hp σ => ⟨_, rfl, ?_⟩) ?_
    · (decreasing_trivial; repeat ((first | (with_reducible (refine w_len (by simp; done) ?_)) | (with_reducible (refine w_pow (by decide) (by decide) (by decide) ?_)) | fail); decreasing_trivial))
      exact ih N p (Tr.oks_iff.mp hk p hp) (Tr.deps_iff.mp hdp p hp) σ
    · (decreasing_trivial; repeat ((first | (with_reducible (refine w_len (by simp; done) ?_)) | (with_reducible (refine w_pow (by decide) (by decide) (by decide) ?_)) | fail); decreasing_trivial))
      refine w_sum (xs := ps.map fun p => .int (p.nodes : Nat)) (ns := ps.map fun p => ((p.nodes : Nat) : Int)) rfl ?_ ?_
      · have := ints_nat (ps.map fun p => ((p.nodes : Nat) : Int))
        rw [List.map_map] at this
        exact this
      · (decreasing_trivial; repeat ((first | (with_reducible (refine w_len (by simp; done) ?_)) | (with_reducible (refine w_pow (by decide) (by decide) (by decide) ?_)) | fail); decreasing_trivial))
        refine ⟨rfl, rfl, ?_⟩
        have := sum_nat (ps.map Tr.nodes)
        rw [List.map_map] at this
        rw [Tr.nodesL_sum, show (ps.map fun p => ((p.nodes : Nat) : Int)).sum = _ from this]
        congr 1
        omega
  cases t with
  | new x => exact leaf _ _ (by decide) (by decide)
  | use x => exact leaf _ _ (by decide) (by decide)
  | drop x => exact leaf _ _ (by decide) (by decide)
  | copy x y => exact leaf _ _ (by decide) (by decide)
  | seq ps => exact many _ ps (by decide) (by decide) k.1 k.2 (by simp only [Tr.dep] at hd; omega)
  | branch ps => exact many _ ps (by decide) (by decide) (by have := k.1.2; omega) k.2 (by simp only [Tr.dep] at hd; omega)
  | loop p =>
    simp only [startA_s, List.map_cons, List.map_nil, List.length_cons, List.length_nil, Nat.reduceAdd, Nat.reduceSub, List.replicate_succ, List.replicate_zero, List.cons_append, List.nil_append]
    unfold m6_law_nodes
    simp only [Tr.v]
    (decreasing_trivial; repeat ((first | (with_reducible (refine w_len (by simp; done) ?_)) | (with_reducible (refine w_pow (by decide) (by decide) (by decide) ?_)) | fail); decreasing_trivial))
    refine w_ixT rfl ?_
    (decreasing_trivial; repeat ((first | (with_reducible (refine w_len (by simp; done) ?_)) | (with_reducible (refine w_pow (by decide) (by decide) (by decide) ?_)) | fail); decreasing_trivial))
    refine gEq_s (b := true) (by decide) ?_
    (decreasing_trivial; repeat ((first | (with_reducible (refine w_len (by simp; done) ?_)) | (with_reducible (refine w_pow (by decide) (by decide) (by decide) ?_)) | fail); decreasing_trivial))
    rw [if_pos rfl]
    (decreasing_trivial; repeat ((first | (with_reducible (refine w_len (by simp; done) ?_)) | (with_reducible (refine w_pow (by decide) (by decide) (by decide) ?_)) | fail); decreasing_trivial))
    refine w_ixT rfl ?_
    (decreasing_trivial; repeat ((first | (with_reducible (refine w_len (by simp; done) ?_)) | (with_reducible (refine w_pow (by decide) (by decide) (by decide) ?_)) | fail); decreasing_trivial))
    refine (ih N p k (by simp only [Tr.dep] at hd; omega) μ).mono fun v σ ⟨e1, e2⟩ => ?_
    subst e1 e2
    (decreasing_trivial; repeat ((first | (with_reducible (refine w_len (by simp; done) ?_)) | (with_reducible (refine w_pow (by decide) (by decide) (by decide) ?_)) | fail); decreasing_trivial))
    exact ⟨rfl, rfl, by simp only [Tr.nodes]; congr 1; omega⟩
theorem size_ok (T : Nat → Fn) (ho : OfOk (T i3_law_of)) (n : Nat) : Draws (fnR 1 1 (m14_law_size T)) n [.loc n] 1 (fun v => ∃ i : Int, v = .int i ∧ 4 ≤ i ∧ i ≤ 40) := by
  refine Draws.of rfl fun μ B hb hs => ?_
  simp only [startA_s, List.map_cons, List.map_nil, List.length_cons, List.length_nil, Nat.reduceAdd, Nat.reduceSub, List.replicate_succ, List.replicate_zero, List.cons_append, List.nil_append]
  unfold m14_law_size
  (decreasing_trivial; repeat ((first | (with_reducible (refine w_len (by simp; done) ?_)) | (with_reducible (refine w_pow (by decide) (by decide) (by decide) ?_)) | fail); decreasing_trivial))
  refine (ho n _ (by simp) (by simp) rfl μ _ (by omega) hs).mono fun v σ ⟨s1, h1, pv, hv⟩ => ?_
  refine ⟨pv, s1.ext, h1, ?_⟩
  simp only [List.mem_cons, List.not_mem_nil, or_false] at hv
  rcases hv with h | h | h | h | h | h | h | h | h | h <;> exact ⟨_, h, by decide, by decide⟩

def ProgA (v : AV) : Prop := ∃ (t : Tr) (xs : List Str), v = t.v ∧ xs.Sublist NM ∧ xs.length ≤ 8 ∧ t.ok xs ∧ t.dep ≤ 7 ∧ t.nodes ≤ 60 ∧ t.ins.length ≤ 40
def ProgOk (f : Fn) : Prop := ∀ (n : Nat) (most : Int), 4 ≤ most → most ≤ 40 → Draws f n [.loc n, .int most] 3000 ProgA
theorem program_ok (T : Nat → Fn) (ht : TakeOk (T i2_law_take)) (ho : OfOk (T i3_law_of)) (ho2 : OfOk2 (T i3_law_of)) (hn : NamesOk (T i7_law_names)) (htr : ∀ d, 1 ≤ d → d ≤ 6 → TreeOk (T i5_law_tree) d) (hno : NodesOk (T i6_law_nodes) 7) : ProgOk (fnR 8 2 (m15_law_program T)) := fun n most m1 m2 => by
  refine Draws.of rfl fun μ B hb hs => ?_
  have hlt := hs.lt
  simp only [startA_s, List.map_cons, List.map_nil, List.length_cons, List.length_nil, Nat.reduceAdd, Nat.reduceSub, List.replicate_succ, List.replicate_zero, List.cons_append, List.nil_append]
  unfold m15_law_program
  refine o_seq2 (fun ρ1 σ => Ext n μ σ ∧ Hst σ n (B + 11) ∧ ∃ (l : Nat) (xs : List Str), l ≠ n ∧ Has σ l xs ∧ xs ≠ [] ∧ xs.length ≤ 8 ∧ xs.Sublist NM ∧ ρ1 = [some (.loc n), some (.int most), some (.loc l), none, none, none, none, none]) ?_ ?_
  · (decreasing_trivial; repeat ((first | (with_reducible (refine w_len (by simp; done) ?_)) | (with_reducible (refine w_pow (by decide) (by decide) (by decide) ?_)) | fail); decreasing_trivial))
    refine (ho n _ (by simp) (by simp) rfl μ _ (by omega) hs).mono fun v σ ⟨s1, h1, pv, hv⟩ => ?_
    obtain ⟨r, e, r1, r2⟩ : ∃ r : Int, v = .int r ∧ 1 ≤ r ∧ r ≤ 8 := by
      simp only [List.mem_cons, List.not_mem_nil, or_false] at hv
      rcases hv with h | h | h | h | h | h | h | h | h | h <;> exact ⟨_, h, by decide, by decide⟩
    subst e
    (decreasing_trivial; repeat ((first | (with_reducible (refine w_len (by simp; done) ?_)) | (with_reducible (refine w_pow (by decide) (by decide) (by decide) ?_)) | fail); decreasing_trivial))
    refine (hn n r σ _ r1 (by omega) (by omega) h1).mono fun v σ2 ⟨e, x2, h2, xs, hx, hl, hsub⟩ => ?_
    subst e
    have el : σ.length = μ.length := s1.1
    refine ⟨⟨by have := x2.1; omega, fun i h1 h2 => (x2.2 i (by omega) h2).trans (s1.2 i h2)⟩, h2.le (by omega), σ.length, xs, by omega, hx, fun z => by rw [z] at hl; simp at hl; omega, by omega, hsub, rfl⟩
  · rintro ρ1 σ ⟨x1, h1, l, xs, hln, hx, hne, hz, hsub, rfl⟩
    have nm : ∀ τ C, Has τ l xs → C + 1 ≤ 1000000000 → Hst τ n C → wp (T i3_law_of [.loc n, .loc l] τ) fun v τ2 => Stp n τ τ2 ∧ Hst τ2 n (C + 1) ∧ pure? v = true ∧ ∃ x, v = .str x ∧ x ∈ xs := fun τ C hx hC hh => of_name ho2 hne (by omega) τ C hln hx hC hh
    refine o_seq2 (fun ρ1 τ => Stp n σ τ ∧ Hst τ n (B + 1200) ∧ ∃ t : Tr, t.ok xs ∧ t.dep ≤ 6 ∧ t.ins.length ≤ 36 ∧ ρ1 = [some (.loc n), some (.int most), some (.loc l), some t.v, none, none, none, none]) ?_ ?_
    · (decreasing_trivial; repeat ((first | (with_reducible (refine w_len (by simp; done) ?_)) | (with_reducible (refine w_pow (by decide) (by decide) (by decide) ?_)) | fail); decreasing_trivial))
      refine (ho n _ (by simp) (by simp) rfl σ _ (by omega) h1).mono fun v τ ⟨s2, h2, pv, hv⟩ => ?_
      obtain ⟨r, e, r1, r2⟩ : ∃ r : Nat, v = .int (r : Nat) ∧ 1 ≤ r ∧ r ≤ 6 := by
        simp only [List.mem_cons, List.not_mem_nil, or_false] at hv
        rcases hv with h | h | h | h
        · exact ⟨3, h, by decide, by decide⟩
        · exact ⟨5, h, by decide, by decide⟩
        · exact ⟨5, h, by decide, by decide⟩
        · exact ⟨6, h, by decide, by decide⟩
      subst e
      (decreasing_trivial; repeat ((first | (with_reducible (refine w_len (by simp; done) ?_)) | (with_reducible (refine w_pow (by decide) (by decide) (by decide) ?_)) | fail); decreasing_trivial))
      have q1 : 1 ≤ (if most - 4 > 1 then most - 4 else 1) ∧ (if most - 4 > 1 then most - 4 else 1) ≤ 36 := by split <;> omega
      have q2 : 4 * ((if most - 4 > 1 then most - 4 else 1).toNat * (r + 1)) ≤ 4 * (36 * 7) := Nat.mul_le_mul_left 4 (Nat.mul_le_mul (by omega) (by omega))
      refine (htr r r1 r2 n l xs _ hne (by omega) q1.1 (by omega) τ _ hln (hx.stp hln s2) (by omega) h2).mono fun v τ2 ⟨s3, h3, pv, t, e, hk, hd, hi⟩ => ?_
      subst e
      exact ⟨s2.trans s3, h3.le (by omega), t, hk, by omega, by omega, rfl⟩
    · rintro ρ2 τ ⟨s2, h2, t, hk, hd, hi, rfl⟩
      have hx2 := hx.stp hln s2
      refine o_seq2 (fun ρ1 τ2 => Stp n τ τ2 ∧ Hst τ2 n (B + 1203) ∧ ∃ a b c : Str, a ∈ xs ∧ b ∈ xs ∧ c ∈ xs ∧ ρ1 = [some (.loc n), some (.int most), some (.loc l), some t.v, some (.tup (Tr.vs [.new a, .copy b c])), none, none, none]) ?_ ?_
      · (decreasing_trivial; repeat ((first | (with_reducible (refine w_len (by simp; done) ?_)) | (with_reducible (refine w_pow (by decide) (by decide) (by decide) ?_)) | fail); decreasing_trivial))
        refine (nm τ _ hx2 (by omega) h2).mono fun v τ2 ⟨s3, h3, _, a, e, ha⟩ => ?_
        subst e
        (decreasing_trivial; repeat ((first | (with_reducible (refine w_len (by simp; done) ?_)) | (with_reducible (refine w_pow (by decide) (by decide) (by decide) ?_)) | fail); decreasing_trivial))
        refine (nm τ2 _ (hx2.stp hln s3) (by omega) h3).mono fun v τ3 ⟨s4, h4, _, b, e, hb⟩ => ?_
        subst e
        (decreasing_trivial; repeat ((first | (with_reducible (refine w_len (by simp; done) ?_)) | (with_reducible (refine w_pow (by decide) (by decide) (by decide) ?_)) | fail); decreasing_trivial))
        refine (nm τ3 _ ((hx2.stp hln s3).stp hln s4) (by omega) h4).mono fun v τ4 ⟨s5, h5, _, c, e, hc⟩ => ?_
        subst e
        (decreasing_trivial; repeat ((first | (with_reducible (refine w_len (by simp; done) ?_)) | (with_reducible (refine w_pow (by decide) (by decide) (by decide) ?_)) | fail); decreasing_trivial))
        exact ⟨(s3.trans s4).trans s5, h5, a, b, c, ha, hb, hc, rfl⟩
      · rintro ρ3 τ2 ⟨s3, h3, a, b, c, ha, hb, hc, rfl⟩
        have hx3 := hx2.stp hln s3
        refine o_seq2 (fun ρ1 τ3 => Stp n τ2 τ3 ∧ Hst τ3 n (B + 1205) ∧ ∃ ws : List Tr, ws.length = 2 ∧ (∀ w ∈ ws, ∃ x, w = .use x ∧ x ∈ xs) ∧ ρ1 = [some (.loc n), some (.int most), some (.loc l), some t.v, some (.tup (Tr.vs [.new a, .copy b c])), some (.tup (Tr.vs ws)), none, none]) ?_ ?_
        · (decreasing_trivial; repeat ((first | (with_reducible (refine w_len (by simp; done) ?_)) | (with_reducible (refine w_pow (by decide) (by decide) (by decide) ?_)) | fail); decreasing_trivial))
          refine ⟨by decide, by decide, ?_⟩
          have hrl : (rangeL 0 (2 : Int).toNat).length = 2 := by simp [rangeL]
          refine wp_lc (fun i acc τ3 => Stp n τ2 τ3 ∧ Hst τ3 n (B + 1203 + i) ∧ ∃ ws : List Tr, acc = Tr.vs ws ∧ ws.length = i ∧ ∀ w ∈ ws, ∃ x, w = .use x ∧ x ∈ xs) (by rw [hrl]; omega) ?_ ?_ ?_ FUEL 0 _ _ (by rw [hrl]; unfold FUEL; omega) (by omega) ⟨Stp.refl n τ2, h3, [], rfl, rfl, by simp⟩
          · rintro i acc σ3 ⟨_, _, ws, rfl, hl, _⟩
            rw [Tr.vs_len, hl]
          · rintro acc σ3 ⟨t3, h3, ws, rfl, hl, hw⟩
            rw [hrl] at hl h3
            (decreasing_trivial; repeat ((first | (with_reducible (refine w_len (by simp; done) ?_)) | (with_reducible (refine w_pow (by decide) (by decide) (by decide) ?_)) | fail); decreasing_trivial))
            exact ⟨t3, h3, ws, hl, hw, rfl⟩
          · rintro i v acc σ3 hv ⟨t3, h3, ws, rfl, hl, hw⟩
            obtain ⟨rfl, hi3⟩ := rng_mem hv
            have hi3 : i < 2 := hi3
            refine ⟨_, rfl, ?_⟩
            (decreasing_trivial; repeat ((first | (with_reducible (refine w_len (by simp; done) ?_)) | (with_reducible (refine w_pow (by decide) (by decide) (by decide) ?_)) | fail); decreasing_trivial))
            refine (nm σ3 _ (hx3.stp hln t3) (by omega) h3).mono fun v σ4 ⟨s4, h4, _, x, e, hx1⟩ => ?_
            subst e
            (decreasing_trivial; repeat ((first | (with_reducible (refine w_len (by simp; done) ?_)) | (with_reducible (refine w_pow (by decide) (by decide) (by decide) ?_)) | fail); decreasing_trivial))
            refine ⟨t3.trans s4, h4.le (by omega), ws ++ [.use x], by simp [Tr.vs_map, Tr.v], by simp [hl], ?_⟩
            intro w hw1
            rcases List.mem_append.mp hw1 with h | h
            · exact hw w h
            · exact ⟨x, List.mem_singleton.mp h, hx1⟩
        · rintro ρ4 τ3 ⟨s4, h4, ws, hwl, hws, rfl⟩
          have okw : Tr.oks xs ws := Tr.oks_iff.mpr fun w hw => by
            obtain ⟨x, rfl, hx⟩ := hws w hw
            exact hx
          have dw : Tr.deps ws ≤ 1 := Tr.deps_iff.mpr fun w hw => by
            obtain ⟨x, rfl, hx⟩ := hws w hw
            exact Nat.le_refl _
          have iw : (Tr.insL ws).length ≤ 2 := by
            have := Tr.insL_nodes ws
            have e : Tr.nodesL ws = 2 := by
              match ws, hwl with
              | [p, q], _ =>
                obtain ⟨x, rfl, _⟩ := hws p (by simp)
                obtain ⟨y, rfl, _⟩ := hws q (by simp)
                rfl
            omega
          have xt : Ext n μ τ3 := ((x1.step s2).step s3).step s4
          refine o_seq2 (fun ρ1 τ4 => Stp n τ3 τ4 ∧ Hst τ4 n (B + 1206) ∧ ∃ w : Tr, w.ok xs ∧ w.dep ≤ 7 ∧ w.ins.length ≤ 40 ∧ ρ1 = [some (.loc n), some (.int most), some (.loc l), some t.v, some (.tup (Tr.vs [.new a, .copy b c])), some (.tup (Tr.vs ws)), some w.v, none]) ?_ ?_
          · (decreasing_trivial; repeat ((first | (with_reducible (refine w_len (by simp; done) ?_)) | (with_reducible (refine w_pow (by decide) (by decide) (by decide) ?_)) | fail); decreasing_trivial))
            refine (ht n 2 (by decide) (by decide) τ3 _ (by omega) h4).mono fun v τ4 ⟨s5, h5, _, z, e, z0, z1⟩ => ?_
            subst e
            (decreasing_trivial; repeat ((first | (with_reducible (refine w_len (by simp; done) ?_)) | (with_reducible (refine w_pow (by decide) (by decide) (by decide) ?_)) | fail); decreasing_trivial))
            have ecut : ∃ hd : List Tr, cutA (Tr.vs [.new a, .copy b c]) none (some (1 + z)) = Tr.vs hd ∧ hd.length ≤ 2 ∧ Tr.oks xs hd ∧ Tr.deps hd ≤ 1 ∧ (Tr.insL hd).length ≤ 2 := by
              have hz : z = 0 ∨ z = 1 := by omega
              rcases hz with rfl | rfl
              · exact ⟨[.new a], rfl, by simp, ⟨ha, trivial⟩, Nat.le_refl _, by simp [Tr.insL, Tr.ins]⟩
              · exact ⟨[.new a, .copy b c], rfl, by simp, ⟨ha, ⟨hb, hc⟩, trivial⟩, Nat.le_refl _, Nat.le_refl _⟩
            obtain ⟨hd2, e2, hh1, hh2, hh3, hh4⟩ := ecut
            rw [e2]
            refine w_addT (by rw [Tr.vs_len]; simp; omega) ?_
            refine w_addT (by rw [List.length_append, Tr.vs_len, Tr.vs_len]; simp; omega) ?_
            have e3 : Tr.vs hd2 ++ [t.v] ++ Tr.vs ws = Tr.vs (hd2 ++ [t] ++ ws) := by simp [Tr.vs_map]
            rw [e3]
            (decreasing_trivial; repeat ((first | (with_reducible (refine w_len (by simp; done) ?_)) | (with_reducible (refine w_pow (by decide) (by decide) (by decide) ?_)) | fail); decreasing_trivial))
            refine ⟨s5, h5, .seq (hd2 ++ [t] ++ ws), ⟨by simp; omega, ?_⟩, ?_, ?_, rfl⟩
            · rw [Tr.oks_app, Tr.oks_app]
              exact ⟨⟨hh2, hk, trivial⟩, okw⟩
            · simp only [Tr.dep]
              have : Tr.deps (hd2 ++ [t] ++ ws) ≤ 6 := by
                rw [Tr.deps_iff]
                intro p hp
                rcases List.mem_append.mp hp with hp | hp
                · rcases List.mem_append.mp hp with hp | hp
                  · have := Tr.deps_iff.mp hh3 p hp
                    omega
                  · rw [List.mem_singleton.mp hp]
                    exact hd
                · have := Tr.deps_iff.mp dw p hp
                  omega
              omega
            · simp only [Tr.ins, Tr.insL_app, List.length_append, Tr.insL, List.append_nil]
              omega
          · rintro ρ5 τ4 ⟨s5, h5, w, wk, wd, wi, rfl⟩
            refine o_seq2 (fun ρ1 τ5 => τ5 = τ4 ∧ ∃ w : Tr, w.ok xs ∧ w.dep ≤ 7 ∧ w.ins.length ≤ 40 ∧ w.nodes ≤ 60 ∧ ρ1 = [some (.loc n), some (.int most), some (.loc l), some t.v, some (.tup (Tr.vs [.new a, .copy b c])), some (.tup (Tr.vs ws)), some w.v, none]) ?_ ?_
            · (decreasing_trivial; repeat ((first | (with_reducible (refine w_len (by simp; done) ?_)) | (with_reducible (refine w_pow (by decide) (by decide) (by decide) ?_)) | fail); decreasing_trivial))
              refine (hno xs w wk wd τ4).mono fun v σ2 ⟨e1, e2⟩ => ?_
              subst e1 e2
              (decreasing_trivial; repeat ((first | (with_reducible (refine w_len (by simp; done) ?_)) | (with_reducible (refine w_pow (by decide) (by decide) (by decide) ?_)) | fail); decreasing_trivial))
              refine ite_k (fun h => ?_) (fun h => ?_)
              · (decreasing_trivial; repeat ((first | (with_reducible (refine w_len (by simp; done) ?_)) | (with_reducible (refine w_pow (by decide) (by decide) (by decide) ?_)) | fail); decreasing_trivial))
                refine w_addT (by rw [Tr.vs_len, Tr.vs_len]; simp; omega) ?_
                rw [← Tr.vs_app]
                (decreasing_trivial; repeat ((first | (with_reducible (refine w_len (by simp; done) ?_)) | (with_reducible (refine w_pow (by decide) (by decide) (by decide) ?_)) | fail); decreasing_trivial))
                refine ⟨rfl, .seq ([.new a, .copy b c] ++ ws), ⟨by simp; omega, ?_⟩, ?_, ?_, ?_, rfl⟩
                · rw [Tr.oks_app]
                  exact ⟨⟨ha, ⟨hb, hc⟩, trivial⟩, okw⟩
                · simp only [Tr.dep]
                  have : Tr.deps ([.new a, .copy b c] ++ ws) ≤ 6 := by
                    rw [Tr.deps_iff]
                    intro p hp
                    rcases List.mem_append.mp hp with hp | hp
                    · have := Tr.deps_iff.mp (show Tr.deps [.new a, .copy b c] ≤ 1 from Nat.le_refl _) p hp
                      omega
                    · have := Tr.deps_iff.mp dw p hp
                      omega
                  omega
                · simp only [Tr.ins, Tr.insL_app, List.length_append]
                  have : (Tr.insL [.new a, .copy b c]).length = 2 := rfl
                  omega
                · simp only [Tr.nodes, Tr.nodesL_app]
                  have e : Tr.nodesL ws = 2 := by
                    match ws, hwl with
                    | [p, q], _ =>
                      obtain ⟨x, rfl, _⟩ := hws p (by simp)
                      obtain ⟨y, rfl, _⟩ := hws q (by simp)
                      rfl
                  have : Tr.nodesL [.new a, .copy b c] = 2 := rfl
                  omega
              · have h := of_decide_eq_false h
                (decreasing_trivial; repeat ((first | (with_reducible (refine w_len (by simp; done) ?_)) | (with_reducible (refine w_pow (by decide) (by decide) (by decide) ?_)) | fail); decreasing_trivial))
                exact ⟨rfl, w, wk, wd, wi, by omega, rfl⟩
            · rintro ρ6 τ5 ⟨rfl, w, wk, wd, wi, wn, rfl⟩
              have fin : ∀ σ, Ext n μ σ → Hst σ n (B + 3000) → pure? w.v = true ∧ Ext n μ σ ∧ Hst σ n (B + 3000) ∧ ProgA w.v := fun σ h1 h2 => ⟨Tr.vpure w, h1, h2, w, xs, rfl, hsub, hz, wk, wd, wn, wi⟩
              (decreasing_trivial; repeat ((first | (with_reducible (refine w_len (by simp; done) ?_)) | (with_reducible (refine w_pow (by decide) (by decide) (by decide) ?_)) | fail); decreasing_trivial))
              refine (ht n 9 (by decide) (by decide) τ5 _ (by omega) h5).mono fun v τ6 ⟨s6, h6, _, z, e, z0, z1⟩ => ?_
              subst e
              have x6 := (xt.step s5).step s6
              (decreasing_trivial; repeat ((first | (with_reducible (refine w_len (by simp; done) ?_)) | (with_reducible (refine w_pow (by decide) (by decide) (by decide) ?_)) | fail); decreasing_trivial))
              refine ite_k (fun h => ?_) (fun h => ?_)
              · rw [if_pos rfl]
                (decreasing_trivial; repeat ((first | (with_reducible (refine w_len (by simp; done) ?_)) | (with_reducible (refine w_pow (by decide) (by decide) (by decide) ?_)) | fail); decreasing_trivial))
                exact fin _ x6 (h6.le (by omega))
              · (decreasing_trivial; repeat ((first | (with_reducible (refine w_len (by simp; done) ?_)) | (with_reducible (refine w_pow (by decide) (by decide) (by decide) ?_)) | fail); decreasing_trivial))
                refine (hno xs t hk (by omega) τ6).mono fun v σ2 ⟨e1, e2⟩ => ?_
                subst e1 e2
                (decreasing_trivial; repeat ((first | (with_reducible (refine w_len (by simp; done) ?_)) | (with_reducible (refine w_pow (by decide) (by decide) (by decide) ?_)) | fail); decreasing_trivial))
                refine ite_k (fun h => ?_) (fun h => ?_)
                · (decreasing_trivial; repeat ((first | (with_reducible (refine w_len (by simp; done) ?_)) | (with_reducible (refine w_pow (by decide) (by decide) (by decide) ?_)) | fail); decreasing_trivial))
                  exact fin _ x6 (h6.le (by omega))
                · have h := of_decide_eq_false h
                  (decreasing_trivial; repeat ((first | (with_reducible (refine w_len (by simp; done) ?_)) | (with_reducible (refine w_pow (by decide) (by decide) (by decide) ?_)) | fail); decreasing_trivial))
                  exact ⟨Tr.vpure t, x6, h6.le (by omega), t, xs, rfl, hsub, hz, hk, by omega, by omega, by omega⟩
end Lr

namespace Lr
open PySem PySem.Spec L2

def Tr.parts : Tr → List Tr
  | .seq ps => ps | .branch ps => ps | .loop p => [p] | _ => []
theorem Tr.parts_ok {N : List Str} {t : Tr} (k : t.ok N) : (∀ p ∈ t.parts, p.ok N) ∧ t.parts.length ≤ 20 := by
  cases t with
  | seq ps => exact ⟨Tr.oks_iff.mp k.2, k.1⟩
  | branch ps => exact ⟨Tr.oks_iff.mp k.2, by have := k.1.2; simp only [Tr.parts]; omega⟩
  | loop p => exact ⟨fun q hq => by rw [List.mem_singleton.mp hq]; exact k, by simp [Tr.parts]⟩
  | _ => exact ⟨fun q hq => (nomatch hq), by simp [Tr.parts]⟩
theorem Tr.parts_dep {d : Nat} {t : Tr} (h : t.dep ≤ d + 1) : ∀ p ∈ t.parts, p.dep ≤ d := by
  cases t with
  | seq ps => exact Tr.deps_iff.mp (show Tr.deps ps ≤ d by simp only [Tr.dep] at h; omega)
  | branch ps => exact Tr.deps_iff.mp (show Tr.deps ps ≤ d by simp only [Tr.dep] at h; omega)
  | loop p => exact fun q hq => by rw [List.mem_singleton.mp hq]; simp only [Tr.dep] at h; omega
  | _ => exact fun q hq => nomatch hq
theorem Tr.parts_ins {t : Tr} (h : t.leaf = false) : t.ins = Tr.insL t.parts := by
  cases t with
  | seq ps => rfl
  | branch ps => rfl
  | loop p => simp [Tr.ins, Tr.parts, Tr.insL]
  | _ => cases h
def PartsOk (f : Fn) : Prop := ∀ (t : Tr), Pure1 f [t.v] (.tup (Tr.vs t.parts))
theorem parts_ok (T : Nat → Fn) : PartsOk (fnR 1 1 (m19_parts_of T)) := fun t => Pure1.of rfl fun μ => by
  have pv := Tr.vpures t.parts
  have leaf : ∀ a r, (a == ("loop" : Str)) = false → (("seq" : Str) == a || ("branch" : Str) == a) = false → wo (m19_parts_of T [some (.tup (.str a :: r))] μ) { rt := fun v σ => σ = μ ∧ pure? v = true ∧ v = .tup [] } := fun a r h1 h2 => by
    unfold m19_parts_of
    (decreasing_trivial; repeat ((first | (with_reducible (refine w_len (by simp; done) ?_)) | (with_reducible (refine w_pow (by decide) (by decide) (by decide) ?_)) | fail); decreasing_trivial))
    refine w_ixT atI_0 ?_
    (decreasing_trivial; repeat ((first | (with_reducible (refine w_len (by simp; done) ?_)) | (with_reducible (refine w_pow (by decide) (by decide) (by decide) ?_)) | fail); decreasing_trivial))
    refine gEq_s h1 ?_
    (decreasing_trivial; repeat ((first | (with_reducible (refine w_len (by simp; done) ?_)) | (with_reducible (refine w_pow (by decide) (by decide) (by decide) ?_)) | fail); decreasing_trivial))
    rw [if_neg (by simp)]
    (decreasing_trivial; repeat ((first | (with_reducible (refine w_len (by simp; done) ?_)) | (with_reducible (refine w_pow (by decide) (by decide) (by decide) ?_)) | fail); decreasing_trivial))
    refine w_ixT atI_0 ?_
    (decreasing_trivial; repeat ((first | (with_reducible (refine w_len (by simp; done) ?_)) | (with_reducible (refine w_pow (by decide) (by decide) (by decide) ?_)) | fail); decreasing_trivial))
    refine gIn_2 h2 ?_
    (decreasing_trivial; repeat ((first | (with_reducible (refine w_len (by simp; done) ?_)) | (with_reducible (refine w_pow (by decide) (by decide) (by decide) ?_)) | fail); decreasing_trivial))
    rw [if_neg (by simp)]
    (decreasing_trivial; repeat ((first | (with_reducible (refine w_len (by simp; done) ?_)) | (with_reducible (refine w_pow (by decide) (by decide) (by decide) ?_)) | fail); decreasing_trivial))
    exact ⟨rfl, rfl, rfl⟩
  have many : ∀ a (ps : List Tr), (a == ("loop" : Str)) = false → (("seq" : Str) == a || ("branch" : Str) == a) = true → wo (m19_parts_of T [some (.tup [.str a, .tup (Tr.vs ps)])] μ) { rt := fun v σ => σ = μ ∧ pure? v = true ∧ v = .tup (Tr.vs ps) } := fun a ps h1 h2 => by
    unfold m19_parts_of
    (decreasing_trivial; repeat ((first | (with_reducible (refine w_len (by simp; done) ?_)) | (with_reducible (refine w_pow (by decide) (by decide) (by decide) ?_)) | fail); decreasing_trivial))
    refine w_ixT rfl ?_
    (decreasing_trivial; repeat ((first | (with_reducible (refine w_len (by simp; done) ?_)) | (with_reducible (refine w_pow (by decide) (by decide) (by decide) ?_)) | fail); decreasing_trivial))
    refine gEq_s h1 ?_
    (decreasing_trivial; repeat ((first | (with_reducible (refine w_len (by simp; done) ?_)) | (with_reducible (refine w_pow (by decide) (by decide) (by decide) ?_)) | fail); decreasing_trivial))
    rw [if_neg (by simp)]
    (decreasing_trivial; repeat ((first | (with_reducible (refine w_len (by simp; done) ?_)) | (with_reducible (refine w_pow (by decide) (by decide) (by decide) ?_)) | fail); decreasing_trivial))
    refine w_ixT rfl ?_
    (decreasing_trivial; repeat ((first | (with_reducible (refine w_len (by simp; done) ?_)) | (with_reducible (refine w_pow (by decide) (by decide) (by decide) ?_)) | fail); decreasing_trivial))
    refine gIn_2 h2 ?_
    (decreasing_trivial; repeat ((first | (with_reducible (refine w_len (by simp; done) ?_)) | (with_reducible (refine w_pow (by decide) (by decide) (by decide) ?_)) | fail); decreasing_trivial))
    rw [if_pos rfl]
    (decreasing_trivial; repeat ((first | (with_reducible (refine w_len (by simp; done) ?_)) | (with_reducible (refine w_pow (by decide) (by decide) (by decide) ?_)) | fail); decreasing_trivial))
    refine w_ixT rfl ?_
    exact ⟨rfl, by simpa [pure?] using Tr.vpures ps, rfl⟩
  cases t with
  | new x => exact leaf _ _ (by decide) (by decide)
  | use x => exact leaf _ _ (by decide) (by decide)
  | drop x => exact leaf _ _ (by decide) (by decide)
  | copy x y => exact leaf _ _ (by decide) (by decide)
  | seq ps => exact many _ ps (by decide) (by decide)
  | branch ps => exact many _ ps (by decide) (by decide)
  | loop p =>
    simp only [startA_s, List.map_cons, List.map_nil, List.length_cons, List.length_nil, Nat.reduceAdd, Nat.reduceSub, List.replicate_succ, List.replicate_zero, List.cons_append, List.nil_append]
    unfold m19_parts_of
    simp only [Tr.v]
    (decreasing_trivial; repeat ((first | (with_reducible (refine w_len (by simp; done) ?_)) | (with_reducible (refine w_pow (by decide) (by decide) (by decide) ?_)) | fail); decreasing_trivial))
    refine w_ixT rfl ?_
    (decreasing_trivial; repeat ((first | (with_reducible (refine w_len (by simp; done) ?_)) | (with_reducible (refine w_pow (by decide) (by decide) (by decide) ?_)) | fail); decreasing_trivial))
    refine gEq_s (b := true) (by decide) ?_
    (decreasing_trivial; repeat ((first | (with_reducible (refine w_len (by simp; done) ?_)) | (with_reducible (refine w_pow (by decide) (by decide) (by decide) ?_)) | fail); decreasing_trivial))
    rw [if_pos rfl]
    (decreasing_trivial; repeat ((first | (with_reducible (refine w_len (by simp; done) ?_)) | (with_reducible (refine w_pow (by decide) (by decide) (by decide) ?_)) | fail); decreasing_trivial))
    exact ⟨rfl, pv, rfl⟩

theorem Tr.v_head (t : Tr) : ∃ a r, t.v = .tup (.str a :: r) ∧ (t.leaf = true → (("seq" : Str) == a || (("branch" : Str) == a || ("loop" : Str) == a)) = false) ∧ (t.leaf = false → (("seq" : Str) == a || (("branch" : Str) == a || ("loop" : Str) == a)) = true) := by
  cases t with
  | new x => exact ⟨_, _, rfl, fun _ => by decide, fun h => nomatch h⟩
  | use x => exact ⟨_, _, rfl, fun _ => by decide, fun h => nomatch h⟩
  | drop x => exact ⟨_, _, rfl, fun _ => by decide, fun h => nomatch h⟩
  | copy x y => exact ⟨_, _, rfl, fun _ => by decide, fun h => nomatch h⟩
  | seq ps => exact ⟨_, _, rfl, fun h => (nomatch h), fun _ => by decide⟩
  | branch ps => exact ⟨_, _, rfl, fun h => (nomatch h), fun _ => by decide⟩
  | loop p => exact ⟨_, _, rfl, fun h => (nomatch h), fun _ => by decide⟩
theorem insL_take {ps : List Tr} {i : Nat} {p : Tr} (h : ps[i]? = some p) : Tr.insL (ps.take (i + 1)) = Tr.insL (ps.take i) ++ p.ins := by
  rw [List.take_add_one, h, Tr.insL_app]
  simp [Tr.insL]
theorem insL_take_le (ps : List Tr) (i : Nat) : (Tr.insL (ps.take i)).length ≤ (Tr.insL ps).length := by
  have e : ps = ps.take i ++ ps.drop i := (List.take_append_drop i ps).symm
  conv => rhs; rw [e]
  rw [Tr.insL_app, List.length_append]
  omega
def InstrsOk (f : Fn) (d : Nat) : Prop := ∀ (N : List Str) (t : Tr), t.ok N → t.dep ≤ d → t.ins.length ≤ 100000 → Pure1 f [t.v] (.tup (Tr.vs t.ins))
theorem instrs_ok (T : Nat → Fn) (hp : PartsOk (T i19_parts_of)) (d : Nat) (ih : InstrsOk (T i20_instructions) d) : InstrsOk (fnR 3 1 (m20_instructions T)) (d + 1) := fun N t k hd hz => Pure1.of' rfl fun μ => by
  obtain ⟨a, r, e, hl, hc⟩ := Tr.v_head t
  simp only [startA_s, List.map_cons, List.map_nil, List.length_cons, List.length_nil, Nat.reduceAdd, Nat.reduceSub, List.replicate_succ, List.replicate_zero, List.cons_append, List.nil_append]
  unfold m20_instructions
  cases ht : t.leaf with
  | true =>
    rw [leaf_ins ht]
    have pv := Tr.vpure t
    rw [e]
    (decreasing_trivial; repeat ((first | (with_reducible (refine w_len (by simp; done) ?_)) | (with_reducible (refine w_pow (by decide) (by decide) (by decide) ?_)) | fail); decreasing_trivial))
    refine w_ixT atI_0 ?_
    (decreasing_trivial; repeat ((first | (with_reducible (refine w_len (by simp; done) ?_)) | (with_reducible (refine w_pow (by decide) (by decide) (by decide) ?_)) | fail); decreasing_trivial))
    refine gNotIn_3 (hl ht) ?_
    (decreasing_trivial; repeat ((first | (with_reducible (refine w_len (by simp; done) ?_)) | (with_reducible (refine w_pow (by decide) (by decide) (by decide) ?_)) | fail); decreasing_trivial))
    rw [if_pos (by simp)]
    (decreasing_trivial; repeat ((first | (with_reducible (refine w_len (by simp; done) ?_)) | (with_reducible (refine w_pow (by decide) (by decide) (by decide) ?_)) | fail); decreasing_trivial))
    rw [← e]
    exact ⟨List.prefix_refl _, by simp [pure?, pureL, pv], by simp [Tr.vs]⟩
  | false =>
    rw [Tr.parts_ins ht] at hz ⊢
    rw [e]
    (decreasing_trivial; repeat ((first | (with_reducible (refine w_len (by simp; done) ?_)) | (with_reducible (refine w_pow (by decide) (by decide) (by decide) ?_)) | fail); decreasing_trivial))
    refine w_ixT atI_0 ?_
    (decreasing_trivial; repeat ((first | (with_reducible (refine w_len (by simp; done) ?_)) | (with_reducible (refine w_pow (by decide) (by decide) (by decide) ?_)) | fail); decreasing_trivial))
    refine gNotIn_3 (hc ht) ?_
    (decreasing_trivial; repeat ((first | (with_reducible (refine w_len (by simp; done) ?_)) | (with_reducible (refine w_pow (by decide) (by decide) (by decide) ?_)) | fail); decreasing_trivial))
    rw [if_neg (by simp)]
    (decreasing_trivial; repeat ((first | (with_reducible (refine w_len (by simp; done) ?_)) | (with_reducible (refine w_pow (by decide) (by decide) (by decide) ?_)) | fail); decreasing_trivial))
    rw [← e]
    refine w_anyT ?_
    (decreasing_trivial; repeat ((first | (with_reducible (refine w_len (by simp; done) ?_)) | (with_reducible (refine w_pow (by decide) (by decide) (by decide) ?_)) | fail); decreasing_trivial))
    refine (hp t _).mono fun v σ ⟨e1, e2⟩ => ?_
    subst e1 e2
    refine ⟨_, rfl, ?_⟩
    refine wo_dat (fun i ρ τ => ∃ x2, ρ = [some t.v, some (.loc μ.length), x2] ∧ μ <+: τ ∧ τ[μ.length]? = some (.lst (Tr.vs (Tr.insL (t.parts.take i))))) ?_ ?_ FUEL 0 _ _ (by rw [Tr.vs_len]; have := (Tr.parts_ok k).2; unfold FUEL; omega) (by omega) ⟨_, rfl, List.prefix_append _ _, push_get⟩
    · rintro ρ τ ⟨x2, rfl, pre, e3⟩
      rw [Tr.vs_len, List.take_length] at e3
      (decreasing_trivial; repeat ((first | (with_reducible (refine w_len (by simp; done) ?_)) | (with_reducible (refine w_pow (by decide) (by decide) (by decide) ?_)) | fail); decreasing_trivial))
      refine w_tupO e3 ?_
      exact ⟨pre, by simpa [pure?] using Tr.vpures _, rfl⟩
    · rintro i v ρ τ hv ⟨x2, rfl, pre, e3⟩
      rw [Tr.vs_map, List.getElem?_map] at hv
      obtain ⟨p, hpi, rfl⟩ := Option.map_eq_some_iff.mp hv
      have hm := List.mem_of_getElem? hpi
      have hz1 := insL_take_le t.parts (i + 1)
      rw [insL_take hpi, List.length_append] at hz1
      refine ⟨_, rfl, ?_⟩
      (decreasing_trivial; repeat ((first | (with_reducible (refine w_len (by simp; done) ?_)) | (with_reducible (refine w_pow (by decide) (by decide) (by decide) ?_)) | fail); decreasing_trivial))
      refine ⟨by simp [isLs, lsOf, e3], ?_⟩
      (decreasing_trivial; repeat ((first | (with_reducible (refine w_len (by simp; done) ?_)) | (with_reducible (refine w_pow (by decide) (by decide) (by decide) ?_)) | fail); decreasing_trivial))
      refine (ih N p ((Tr.parts_ok k).1 p hm) (Tr.parts_dep hd p hm) (by omega) τ).mono fun v σ ⟨e1, e2⟩ => ?_
      subst e1 e2
      refine ⟨μ.length, _, _, rfl, e3, rfl, by rw [Tr.vs_len, Tr.vs_len]; omega, _, rfl, pre_set pre (Nat.le_refl _), ?_⟩
      rw [List.getElem?_set_self (List.getElem?_eq_some_iff.mp e3).1, insL_take hpi, Tr.vs_app]

def ListedOk (f : Fn) (d : Nat) : Prop := ∀ (N : List Str) (t : Tr), t.ok N → t.dep ≤ d → t.ins.length ≤ 100000 → Pure1 f [t.v] (.lst (Tr.vs t.ins))
theorem listed_ok (T : Nat → Fn) (d : Nat) (ih : ListedOk (T i23_law_listed) d) : ListedOk (fnR 3 1 (m23_law_listed T)) (d + 1) := fun N t k hd hz => Pure1.of rfl fun μ => by
  have leaf : ∀ (t : Tr) a r, t.v = .tup (.str a :: r) → t.leaf = true → (a == ("loop" : Str)) = false → (("seq" : Str) == a || ("branch" : Str) == a) = false → wo (m23_law_listed T [some t.v, none, none] μ) { rt := fun v σ => σ = μ ∧ pure? v = true ∧ v = .lst (Tr.vs t.ins) } := fun t a r e ht h1 h2 => by
    have pv := Tr.vpure t
    rw [leaf_ins ht]
    unfold m23_law_listed
    rw [e]
    (decreasing_trivial; repeat ((first | (with_reducible (refine w_len (by simp; done) ?_)) | (with_reducible (refine w_pow (by decide) (by decide) (by decide) ?_)) | fail); decreasing_trivial))
    refine w_ixT atI_0 ?_
    (decreasing_trivial; repeat ((first | (with_reducible (refine w_len (by simp; done) ?_)) | (with_reducible (refine w_pow (by decide) (by decide) (by decide) ?_)) | fail); decreasing_trivial))
    refine gEq_s h1 ?_
    (decreasing_trivial; repeat ((first | (with_reducible (refine w_len (by simp; done) ?_)) | (with_reducible (refine w_pow (by decide) (by decide) (by decide) ?_)) | fail); decreasing_trivial))
    rw [if_neg (by simp)]
    (decreasing_trivial; repeat ((first | (with_reducible (refine w_len (by simp; done) ?_)) | (with_reducible (refine w_pow (by decide) (by decide) (by decide) ?_)) | fail); decreasing_trivial))
    refine w_ixT atI_0 ?_
    (decreasing_trivial; repeat ((first | (with_reducible (refine w_len (by simp; done) ?_)) | (with_reducible (refine w_pow (by decide) (by decide) (by decide) ?_)) | fail); decreasing_trivial))
    refine gIn_2 h2 ?_
    (decreasing_trivial; repeat ((first | (with_reducible (refine w_len (by simp; done) ?_)) | (with_reducible (refine w_pow (by decide) (by decide) (by decide) ?_)) | fail); decreasing_trivial))
    rw [if_neg (by simp)]
    (decreasing_trivial; repeat ((first | (with_reducible (refine w_len (by simp; done) ?_)) | (with_reducible (refine w_pow (by decide) (by decide) (by decide) ?_)) | fail); decreasing_trivial))
    rw [← e]
    exact ⟨rfl, by simp [pure?, pureL, pv], by simp [Tr.vs]⟩
  have many : ∀ a (ps : List Tr), (a == ("loop" : Str)) = false → (("seq" : Str) == a || ("branch" : Str) == a) = true → ps.length ≤ 20 → Tr.oks N ps → Tr.deps ps ≤ d → (Tr.insL ps).length ≤ 100000 → wo (m23_law_listed T [some (.tup [.str a, .tup (Tr.vs ps)]), none, none] μ) { rt := fun v σ => σ = μ ∧ pure? v = true ∧ v = .lst (Tr.vs (Tr.insL ps)) } := fun a ps h1 h2 hl hk hdp hz => by
    unfold m23_law_listed
    (decreasing_trivial; repeat ((first | (with_reducible (refine w_len (by simp; done) ?_)) | (with_reducible (refine w_pow (by decide) (by decide) (by decide) ?_)) | fail); decreasing_trivial))
    refine w_ixT rfl ?_
    (decreasing_trivial; repeat ((first | (with_reducible (refine w_len (by simp; done) ?_)) | (with_reducible (refine w_pow (by decide) (by decide) (by decide) ?_)) | fail); decreasing_trivial))
    refine gEq_s h1 ?_
    (decreasing_trivial; repeat ((first | (with_reducible (refine w_len (by simp; done) ?_)) | (with_reducible (refine w_pow (by decide) (by decide) (by decide) ?_)) | fail); decreasing_trivial))
    rw [if_neg (by simp)]
    (decreasing_trivial; repeat ((first | (with_reducible (refine w_len (by simp; done) ?_)) | (with_reducible (refine w_pow (by decide) (by decide) (by decide) ?_)) | fail); decreasing_trivial))
    refine w_ixT rfl ?_
    (decreasing_trivial; repeat ((first | (with_reducible (refine w_len (by simp; done) ?_)) | (with_reducible (refine w_pow (by decide) (by decide) (by decide) ?_)) | fail); decreasing_trivial))
    refine gIn_2 h2 ?_
    (decreasing_trivial; repeat ((first | (with_reducible (refine w_len (by simp; done) ?_)) | (with_reducible (refine w_pow (by decide) (by decide) (by decide) ?_)) | fail); decreasing_trivial))
    rw [if_pos rfl]
    (decreasing_trivial; repeat ((first | (with_reducible (refine w_len (by simp; done) ?_)) | (with_reducible (refine w_pow (by decide) (by decide) (by decide) ?_)) | fail); decreasing_trivial))
    refine w_anyT ?_
    refine w_op ?_
    (decreasing_trivial; repeat ((first | (with_reducible (refine w_len (by simp; done) ?_)) | (with_reducible (refine w_pow (by decide) (by decide) (by decide) ?_)) | fail); decreasing_trivial))
    refine w_ixT rfl ?_
    refine ⟨_, rfl, ?_⟩
    refine wo_dat (fun i ρ τ => τ = μ ∧ ∃ x2, ρ = [some (.tup [.str a, .tup (Tr.vs ps)]), some (.lst (Tr.vs (Tr.insL (ps.take i)))), x2]) ?_ ?_ FUEL 0 _ _ (by rw [Tr.vs_len]; unfold FUEL; omega) (by omega) ⟨rfl, _, rfl⟩
    · rintro ρ τ ⟨rfl, x2, rfl⟩
      rw [Tr.vs_len, List.take_length]
      (decreasing_trivial; repeat ((first | (with_reducible (refine w_len (by simp; done) ?_)) | (with_reducible (refine w_pow (by decide) (by decide) (by decide) ?_)) | fail); decreasing_trivial))
      exact ⟨rfl, by simpa [pure?] using Tr.vpures _, rfl⟩
    · rintro i v ρ τ hv ⟨rfl, x2, rfl⟩
      rw [Tr.vs_map, List.getElem?_map] at hv
      obtain ⟨p, hpi, rfl⟩ := Option.map_eq_some_iff.mp hv
      have hm := List.mem_of_getElem? hpi
      have hz1 := insL_take_le ps (i + 1)
      rw [insL_take hpi, List.length_append] at hz1
      refine ⟨_, rfl, ?_⟩
      (decreasing_trivial; repeat ((first | (with_reducible (refine w_len (by simp; done) ?_)) | (with_reducible (refine w_pow (by decide) (by decide) (by decide) ?_)) | fail); decreasing_trivial))
      refine (ih N p (Tr.oks_iff.mp hk p hm) (Tr.deps_iff.mp hdp p hm) (by omega) τ).mono fun v σ ⟨e1, e2⟩ => ?_
      subst e1 e2
      refine ⟨_, _, rfl, rfl, by rw [Tr.vs_len, Tr.vs_len]; omega, ?_⟩
      refine ⟨rfl, some p.v, ?_⟩
      rw [insL_take hpi, Tr.vs_app]
      rfl
  cases t with
  | new x => exact leaf (.new x) _ _ rfl rfl (by decide) (by decide)
  | use x => exact leaf (.use x) _ _ rfl rfl (by decide) (by decide)
  | drop x => exact leaf (.drop x) _ _ rfl rfl (by decide) (by decide)
  | copy x y => exact leaf (.copy x y) _ _ rfl rfl (by decide) (by decide)
  | seq ps => exact many _ ps (by decide) (by decide) k.1 k.2 (by simp only [Tr.dep] at hd; omega) hz
  | branch ps => exact many _ ps (by decide) (by decide) (by have := k.1.2; omega) k.2 (by simp only [Tr.dep] at hd; omega) hz
  | loop p =>
    simp only [startA_s, List.map_cons, List.map_nil, List.length_cons, List.length_nil, Nat.reduceAdd, Nat.reduceSub, List.replicate_succ, List.replicate_zero, List.cons_append, List.nil_append]
    unfold m23_law_listed
    simp only [Tr.v]
    (decreasing_trivial; repeat ((first | (with_reducible (refine w_len (by simp; done) ?_)) | (with_reducible (refine w_pow (by decide) (by decide) (by decide) ?_)) | fail); decreasing_trivial))
    refine w_ixT rfl ?_
    (decreasing_trivial; repeat ((first | (with_reducible (refine w_len (by simp; done) ?_)) | (with_reducible (refine w_pow (by decide) (by decide) (by decide) ?_)) | fail); decreasing_trivial))
    refine gEq_s (b := true) (by decide) ?_
    (decreasing_trivial; repeat ((first | (with_reducible (refine w_len (by simp; done) ?_)) | (with_reducible (refine w_pow (by decide) (by decide) (by decide) ?_)) | fail); decreasing_trivial))
    rw [if_pos rfl]
    (decreasing_trivial; repeat ((first | (with_reducible (refine w_len (by simp; done) ?_)) | (with_reducible (refine w_pow (by decide) (by decide) (by decide) ?_)) | fail); decreasing_trivial))
    refine w_ixT rfl ?_
    (decreasing_trivial; repeat ((first | (with_reducible (refine w_len (by simp; done) ?_)) | (with_reducible (refine w_pow (by decide) (by decide) (by decide) ?_)) | fail); decreasing_trivial))
    refine (ih N p k (by simp only [Tr.dep] at hd; omega) hz μ).mono fun v σ ⟨e1, e2⟩ => ?_
    subst e1 e2
    exact ⟨rfl, by simpa [pure?] using Tr.vpures _, rfl⟩

def Tr.wd : Tr → List Str
  | .new x => [x] | .use x => [x] | .drop x => [x] | .copy x y => [x, y] | _ => []
theorem Tr.wd_v {t : Tr} (h : t.leaf = true) : ∃ a, t.v = .tup (.str a :: t.wd.map AV.str) := by
  cases t <;> first | exact ⟨_, rfl⟩ | cases h
theorem Tr.wd_ok {N : List Str} {t : Tr} (h : t.leaf = true) (k : t.ok N) : ∀ x ∈ t.wd, x ∈ N := by
  cases t <;> first | (intro z hz; rw [List.mem_singleton.mp hz]; exact k) | cases h | skip
  intro z hz
  rcases List.mem_cons.mp hz with e | hz
  · rw [e]; exact k.1
  · rw [List.mem_singleton.mp hz]; exact k.2
theorem Tr.wd_len {t : Tr} : t.wd.length ≤ 2 := by cases t <;> simp [Tr.wd]
def addK (ks : List Str) (x : Str) : List Str := if x ∈ ks then ks else ks ++ [x]
def tb (ks : List Str) : List (Key × AV) := ks.map fun x => (.inr x, .bl true)
theorem tb_keys (ks : List Str) : strsOf ((tb ks).map (·.1)) = some ks := by
  induction ks with
  | nil => rfl
  | cons x ks ih =>
    show (strsOf ((tb ks).map (·.1))).map (x :: ·) = _
    rw [ih]
    rfl
theorem tb_put (ks : List Str) (x : Str) : putA (tb ks) (.inr x) (.bl true) = tb (addK ks x) := by
  have e : ((tb ks).any fun kv => decide (kv.1 = Sum.inr x)) = decide (x ∈ ks) := by
    unfold tb
    rw [List.any_map]
    apply Bool.eq_iff_iff.mpr
    simp only [List.any_eq_true, Function.comp, decide_eq_true_eq, Sum.inr.injEq, exists_eq_right]
  unfold putA addK
  rw [e]
  by_cases h : x ∈ ks
  · rw [if_pos (decide_eq_true h), if_pos h]
    unfold tb
    rw [List.map_map]
    apply List.map_congr_left
    intro y hy
    simp only [Function.comp, Sum.inr.injEq]
    split <;> rfl
  · rw [if_neg (by rw [decide_eq_false h]; exact Bool.false_ne_true), if_neg h]
    simp [tb]
theorem mem_addK {ks : List Str} {x y : Str} : y ∈ addK ks x ↔ y ∈ ks ∨ y = x := by
  unfold addK
  split
  · constructor
    · exact .inl
    · rintro (h | h)
      · exact h
      · rw [h]; assumption
  · simp
theorem mem_foldK {ms : List Str} : ∀ {ks : List Str} {y : Str}, y ∈ ms.foldl addK ks ↔ y ∈ ks ∨ y ∈ ms := by
  induction ms with
  | nil => simp
  | cons x ms ih =>
    intro ks y
    rw [List.foldl_cons, ih, mem_addK, List.mem_cons, or_assoc]
theorem nodup_addK {ks : List Str} {x : Str} (h : ks.Nodup) : (addK ks x).Nodup := by
  unfold addK
  split
  · exact h
  · rename_i hx
    exact List.nodup_append.mpr ⟨h, by simp, fun a ha b hb e => hx (by rw [List.mem_singleton.mp hb] at e; exact e ▸ ha)⟩
theorem nodup_foldK {ms : List Str} : ∀ {ks : List Str}, ks.Nodup → (ms.foldl addK ks).Nodup := by
  induction ms with
  | nil => exact fun h => h
  | cons x ms ih => exact fun h => ih (nodup_addK h)

theorem foldK_foldK (ms : List Str) : ∀ ks : List Str, (ms.foldl addK []).foldl addK ks = ms.foldl addK ks := by
  suffices h : ∀ (ms acc ks : List Str), (ms.foldl addK acc).foldl addK ks = ms.foldl addK (acc.foldl addK ks) from fun ks => h ms [] ks
  intro ms
  induction ms with
  | nil => exact fun _ _ => rfl
  | cons x ms ih =>
    intro acc ks
    rw [List.foldl_cons, List.foldl_cons, ih]
    congr 1
    by_cases hx : x ∈ acc
    · rw [addK, if_pos hx, addK, if_pos (mem_foldK.mpr (.inr hx))]
    · rw [addK, if_neg hx, List.foldl_append]
      rfl
theorem tb_merge (ms : List Str) : ∀ ks : List Str, mergeA (tb ks) (tb ms) = tb (ms.foldl addK ks) := by
  induction ms with
  | nil => exact fun _ => rfl
  | cons x ms ih =>
    intro ks
    show mergeA (putA (tb ks) (.inr x) (.bl true)) (tb ms) = _
    rw [tb_put, ih]
    rfl
def keysI (is : List Tr) : List Str := (is.flatMap Tr.wd).foldl addK []
theorem keysI_len {is : List Tr} (h : ∀ i ∈ is, ∀ x ∈ i.wd, x ∈ NM) : (keysI is).length ≤ 10 := by
  refine List.Nodup.length_le_of_subset (l₂ := NM) (nodup_foldK .nil) fun y hy => ?_
  rcases mem_foldK.mp hy with hy | hy
  · cases hy
  · obtain ⟨i, hi, hx⟩ := List.mem_flatMap.mp hy
    exact h i hi y hx
theorem keysI_take {is : List Tr} {i : Nat} {p : Tr} (h : is[i]? = some p) : keysI (is.take (i + 1)) = p.wd.foldl addK (keysI (is.take i)) := by
  unfold keysI
  rw [List.take_add_one, h, List.flatMap_append, List.foldl_append]
  simp
end Lr

namespace Lr
open PySem PySem.Spec L2
def WordsOk (f : Fn) : Prop := ∀ is : List Tr, (∀ i ∈ is, i.leaf = true ∧ i.ok NM) → is.length ≤ 100000 → Pure1 f [.tup (Tr.vs is)] (.tup ((sortS (keysI is)).map AV.str))
theorem foldK_len (ms ks : List Str) : (ms.foldl addK ks).length ≤ ks.length + ms.length := by
  induction ms generalizing ks with
  | nil => exact Nat.le_refl _
  | cons x ms ih =>
    have h1 := ih (addK ks x)
    have h2 : (addK ks x).length ≤ ks.length + 1 := by unfold addK; split <;> simp
    rw [List.foldl_cons, List.length_cons]
    omega
theorem tb_len (ks : List Str) : (tb ks).length = ks.length := List.length_map ..
theorem pre_push {μ σ : Store} {o : AO} (h : μ <+: σ) : μ <+: σ ++ [o] := h.trans (List.prefix_append _ _)
theorem words_ok (T : Nat → Fn) : WordsOk (fnR 4 1 (m21_words_of T)) := fun is his hz => Pure1.of' rfl fun μ => by
  have hw : ∀ i ∈ is, ∀ x ∈ i.wd, x ∈ NM := fun i hi => Tr.wd_ok (his i hi).1 (his i hi).2
  have hk : ∀ j, (keysI (is.take j)).length ≤ 10 := fun j => keysI_len fun i hi => hw i (List.mem_of_mem_take hi)
  simp only [startA_s, List.map_cons, List.map_nil, List.length_cons, List.length_nil, Nat.reduceAdd, Nat.reduceSub, List.replicate_succ, List.replicate_zero, List.cons_append, List.nil_append]
  unfold m21_words_of
  (decreasing_trivial; repeat ((first | (with_reducible (refine w_len (by simp; done) ?_)) | (with_reducible (refine w_pow (by decide) (by decide) (by decide) ?_)) | fail); decreasing_trivial))
  refine w_anyT ?_
  (decreasing_trivial; repeat ((first | (with_reducible (refine w_len (by simp; done) ?_)) | (with_reducible (refine w_pow (by decide) (by decide) (by decide) ?_)) | fail); decreasing_trivial))
  refine wo_dat (fun i ρ τ => ∃ x2 x3, ρ = [some (.tup (Tr.vs is)), some (.loc μ.length), x2, x3] ∧ μ <+: τ ∧ τ[μ.length]? = some (.dct (tb (keysI (is.take i))))) ?_ ?_ FUEL 0 _ _ (by rw [Tr.vs_len]; unfold FUEL; omega) (by omega) ⟨_, _, rfl, List.prefix_append _ _, by simp; rfl⟩
  · rintro ρ τ ⟨x2, x3, rfl, pre, e3⟩
    rw [Tr.vs_len, List.take_length] at e3
    (decreasing_trivial; repeat ((first | (with_reducible (refine w_len (by simp; done) ?_)) | (with_reducible (refine w_pow (by decide) (by decide) (by decide) ?_)) | fail); decreasing_trivial))
    refine w_sortD e3 (tb_keys _) (by have := hk is.length; rw [List.take_length] at this; omega) ?_
    (decreasing_trivial; repeat ((first | (with_reducible (refine w_len (by simp; done) ?_)) | (with_reducible (refine w_pow (by decide) (by decide) (by decide) ?_)) | fail); decreasing_trivial))
    exact ⟨pre, by simpa [pure?] using pure_strs _, rfl⟩
  · rintro i v ρ τ hv ⟨x2, x3, rfl, pre, e3⟩
    rw [Tr.vs_map, List.getElem?_map] at hv
    obtain ⟨p, hpi, rfl⟩ := Option.map_eq_some_iff.mp hv
    have hm := List.mem_of_getElem? hpi
    obtain ⟨a, ea⟩ := Tr.wd_v (his p hm).1
    refine ⟨_, rfl, ?_⟩
    have hlt := (List.getElem?_eq_some_iff.mp e3).1
    (decreasing_trivial; repeat ((first | (with_reducible (refine w_len (by simp; done) ?_)) | (with_reducible (refine w_pow (by decide) (by decide) (by decide) ?_)) | fail); decreasing_trivial))
    refine ⟨by simp [isDc, stD, e3], ?_⟩
    (decreasing_trivial; repeat ((first | (with_reducible (refine w_len (by simp; done) ?_)) | (with_reducible (refine w_pow (by decide) (by decide) (by decide) ?_)) | fail); decreasing_trivial))
    refine w_anyT ?_
    (decreasing_trivial; repeat ((first | (with_reducible (refine w_len (by simp; done) ?_)) | (with_reducible (refine w_pow (by decide) (by decide) (by decide) ?_)) | fail); decreasing_trivial))
    refine ⟨_, ea, ?_⟩
    (decreasing_trivial; repeat ((first | (with_reducible (refine w_len (by simp; done) ?_)) | (with_reducible (refine w_pow (by decide) (by decide) (by decide) ?_)) | fail); decreasing_trivial))
    have ecut : cutA (AV.str a :: p.wd.map AV.str) (some 1) none = p.wd.map AV.str := cut_hi (xs := AV.str a :: p.wd.map AV.str) (i := 1) (by simp)
    rw [ecut]
    refine wp_dc (fun j acc σ => σ = τ ∧ acc = tb ((p.wd.take j).foldl addK []) ∧ j ≤ p.wd.length) ?_ ?_ FUEL 0 _ _ (by rw [List.length_map]; have := p.wd_len; unfold FUEL; omega) (by omega) ⟨rfl, rfl, by omega⟩
    · rintro acc σ ⟨rfl, rfl, _⟩
      rw [List.length_map, List.take_length]
      have e4 : (σ ++ [AO.dct (tb (p.wd.foldl addK []))])[μ.length]? = some (.dct (tb (keysI (is.take i)))) := by rw [List.getElem?_append_left hlt]; exact e3
      have e5 : (σ ++ [AO.dct (tb (p.wd.foldl addK []))])[σ.length]? = some (.dct (tb (p.wd.foldl addK []))) := by simp
      (decreasing_trivial; repeat ((first | (with_reducible (refine w_len (by simp; done) ?_)) | (with_reducible (refine w_pow (by decide) (by decide) (by decide) ?_)) | fail); decreasing_trivial))
      have l1 := foldK_len p.wd []
      have l2 := p.wd_len
      refine ⟨μ.length, _, σ.length, _, rfl, rfl, e4, e5, by omega, by rw [tb_len, tb_len]; have := hk i; simp at l1; omega, ?_⟩
      refine ⟨_, _, rfl, pre_set (pre_push pre) (Nat.le_refl _), ?_⟩
      rw [List.getElem?_set_self (List.getElem?_eq_some_iff.mp e4).1, tb_merge, foldK_foldK, keysI_take hpi]
    · rintro j y acc σ hy ⟨rfl, rfl, hj⟩
      rw [List.getElem?_map] at hy
      obtain ⟨x, hx, rfl⟩ := Option.map_eq_some_iff.mp hy
      refine ⟨_, rfl, ?_⟩
      (decreasing_trivial; repeat ((first | (with_reducible (refine w_len (by simp; done) ?_)) | (with_reducible (refine w_pow (by decide) (by decide) (by decide) ?_)) | fail); decreasing_trivial))
      refine ⟨?_, rfl, ?_, (List.getElem?_eq_some_iff.mp hx).1⟩
      · rw [tb_len]
        have := foldK_len (p.wd.take j) []
        have := p.wd_len
        have : (p.wd.take j).length ≤ p.wd.length := by rw [List.length_take]; omega
        simp only [List.length_nil] at *
        omega
      · rw [tb_put, List.take_add_one, hx, List.foldl_append]
        rfl
def NamesOfOk (f : Fn) : Prop := ∀ t : Tr, t.ok NM → t.dep ≤ 9 → t.ins.length ≤ 100000 → Pure1 f [t.v] (.tup ((sortS (keysI t.ins)).map AV.str))
theorem names_of_ok (T : Nat → Fn) (h1 : InstrsOk (T i20_instructions) 9) (h2 : WordsOk (T i21_words_of)) : NamesOfOk (fnR 1 1 (m27_names_of T)) := fun t k hd hz => Pure1.of rfl fun μ => by
  simp only [startA_s, List.map_cons, List.map_nil, List.length_cons, List.length_nil, Nat.reduceAdd, Nat.reduceSub, List.replicate_succ, List.replicate_zero, List.cons_append, List.nil_append]
  unfold m27_names_of
  (decreasing_trivial; repeat ((first | (with_reducible (refine w_len (by simp; done) ?_)) | (with_reducible (refine w_pow (by decide) (by decide) (by decide) ?_)) | fail); decreasing_trivial))
  refine (h1 NM t k hd hz μ).mono fun v σ ⟨e1, e2⟩ => ?_
  subst e1 e2
  (decreasing_trivial; repeat ((first | (with_reducible (refine w_len (by simp; done) ?_)) | (with_reducible (refine w_pow (by decide) (by decide) (by decide) ?_)) | fail); decreasing_trivial))
  refine (h2 t.ins (fun i hi => ⟨Tr.ins_leaf t i hi, Tr.ins_ok t k i hi⟩) hz σ).mono fun v σ ⟨e1, e2⟩ => ?_
  subst e1 e2
  exact ⟨rfl, by simpa [pure?] using pure_strs _, rfl⟩
def LWordsOk (f : Fn) : Prop := ∀ t : Tr, t.ok NM → t.dep ≤ 9 → t.ins.length ≤ 100000 → Pure1 f [t.v] (.lst ((sortS (keysI t.ins)).map AV.str))
theorem lwords_ok (T : Nat → Fn) (h1 : ListedOk (T i23_law_listed) 9) : LWordsOk (fnR 4 1 (m28_law_words T)) := fun t k hd hz => Pure1.of' rfl fun μ => by
  have hw : ∀ i ∈ t.ins, ∀ x ∈ i.wd, x ∈ NM := fun i hi => Tr.wd_ok (Tr.ins_leaf t i hi) (Tr.ins_ok t k i hi)
  have hk : ∀ j, (keysI (t.ins.take j)).length ≤ 10 := fun j => keysI_len fun i hi => hw i (List.mem_of_mem_take hi)
  simp only [startA_s, List.map_cons, List.map_nil, List.length_cons, List.length_nil, Nat.reduceAdd, Nat.reduceSub, List.replicate_succ, List.replicate_zero, List.cons_append, List.nil_append]
  unfold m28_law_words
  (decreasing_trivial; repeat ((first | (with_reducible (refine w_len (by simp; done) ?_)) | (with_reducible (refine w_pow (by decide) (by decide) (by decide) ?_)) | fail); decreasing_trivial))
  refine w_anyL ?_
  (decreasing_trivial; repeat ((first | (with_reducible (refine w_len (by simp; done) ?_)) | (with_reducible (refine w_pow (by decide) (by decide) (by decide) ?_)) | fail); decreasing_trivial))
  refine (h1 NM t k hd hz _).mono fun v σ ⟨e1, e2⟩ => ?_
  subst e1 e2
  refine ⟨_, rfl, ?_⟩
  refine wo_dat (fun i ρ τ => ∃ x2 x3, ρ = [some t.v, some (.loc μ.length), x2, x3] ∧ μ <+: τ ∧ τ[μ.length]? = some (.dct (tb (keysI (t.ins.take i))))) ?_ ?_ FUEL 0 _ _ (by rw [Tr.vs_len]; unfold FUEL; omega) (by omega) ⟨_, _, rfl, List.prefix_append _ _, by simp; rfl⟩
  · rintro ρ τ ⟨x2, x3, rfl, pre, e3⟩
    rw [Tr.vs_len, List.take_length] at e3
    (decreasing_trivial; repeat ((first | (with_reducible (refine w_len (by simp; done) ?_)) | (with_reducible (refine w_pow (by decide) (by decide) (by decide) ?_)) | fail); decreasing_trivial))
    refine w_sortD e3 (tb_keys _) (by have := hk t.ins.length; rw [List.take_length] at this; omega) ?_
    (decreasing_trivial; repeat ((first | (with_reducible (refine w_len (by simp; done) ?_)) | (with_reducible (refine w_pow (by decide) (by decide) (by decide) ?_)) | fail); decreasing_trivial))
    exact ⟨pre, by simpa [pure?] using pure_strs _, rfl⟩
  · rintro i v ρ τ hv ⟨x2, x3, rfl, pre, e3⟩
    rw [Tr.vs_map, List.getElem?_map] at hv
    obtain ⟨p, hpi, rfl⟩ := Option.map_eq_some_iff.mp hv
    have hm := List.mem_of_getElem? hpi
    obtain ⟨a, ea⟩ := Tr.wd_v (Tr.ins_leaf t p hm)
    refine ⟨_, rfl, ?_⟩
    (decreasing_trivial; repeat ((first | (with_reducible (refine w_len (by simp; done) ?_)) | (with_reducible (refine w_pow (by decide) (by decide) (by decide) ?_)) | fail); decreasing_trivial))
    refine w_anyT ?_
    (decreasing_trivial; repeat ((first | (with_reducible (refine w_len (by simp; done) ?_)) | (with_reducible (refine w_pow (by decide) (by decide) (by decide) ?_)) | fail); decreasing_trivial))
    refine ⟨_, ea, ?_⟩
    (decreasing_trivial; repeat ((first | (with_reducible (refine w_len (by simp; done) ?_)) | (with_reducible (refine w_pow (by decide) (by decide) (by decide) ?_)) | fail); decreasing_trivial))
    have ecut : cutA (AV.str a :: p.wd.map AV.str) (some 1) none = p.wd.map AV.str := cut_hi (xs := AV.str a :: p.wd.map AV.str) (i := 1) (by simp)
    rw [ecut]
    refine wo_dat (fun j ρ τ2 => ∃ x3, ρ = [some t.v, some (.loc μ.length), some p.v, x3] ∧ μ <+: τ2 ∧ τ2[μ.length]? = some (.dct (tb ((p.wd.take j).foldl addK (keysI (t.ins.take i))))) ∧ j ≤ p.wd.length) ?_ ?_ FUEL 0 _ _ (by rw [List.length_map]; have := p.wd_len; unfold FUEL; omega) (by omega) ⟨_, rfl, pre, e3, by omega⟩
    · rintro ρ τ2 ⟨x3, rfl, pre, e3, _⟩
      rw [List.length_map, List.take_length, ← keysI_take hpi] at e3
      exact ⟨_, _, rfl, pre, e3⟩
    · rintro j y ρ τ2 hy ⟨x3, rfl, pre, e3, hj⟩
      rw [List.getElem?_map] at hy
      obtain ⟨x, hx, rfl⟩ := Option.map_eq_some_iff.mp hy
      refine ⟨_, rfl, ?_⟩
      (decreasing_trivial; repeat ((first | (with_reducible (refine w_len (by simp; done) ?_)) | (with_reducible (refine w_pow (by decide) (by decide) (by decide) ?_)) | fail); decreasing_trivial))
      refine ⟨μ.length, _, .inr x, rfl, rfl, e3, ?_, _, rfl, pre_set pre (Nat.le_refl _), ?_, (List.getElem?_eq_some_iff.mp hx).1⟩
      · rw [tb_len]
        have := foldK_len (p.wd.take j) (keysI (t.ins.take i))
        have := p.wd_len
        have := hk i
        have : (p.wd.take j).length ≤ p.wd.length := by rw [List.length_take]; omega
        omega
      · rw [List.getElem?_set_self (List.getElem?_eq_some_iff.mp e3).1, tb_put, List.take_add_one, hx, List.foldl_append]
        rfl

mutual
def Tr.str : Tr → Bool
  | .seq ps => Tr.strs ps
  | .branch _ => false
  | .loop _ => false
  | _ => true
def Tr.strs : List Tr → Bool
  | [] => true
  | p :: ps => p.str && Tr.strs ps
end
theorem Tr.strs_all : ∀ ps : List Tr, Tr.strs ps = ps.all Tr.str
  | [] => rfl
  | p :: ps => by rw [List.all_cons, ← Tr.strs_all ps]; rfl
theorem bls_strs : ∀ ps : List Tr, blsOf (ps.map fun p => AV.bl p.str) = some (ps.map Tr.str)
  | [] => rfl
  | p :: ps => by simp only [List.map_cons, blsOf, bls_strs ps, Option.map_some]
def StraightOk (f : Fn) (d : Nat) : Prop := ∀ (N : List Str) (t : Tr), t.ok N → t.dep ≤ d → Pure1 f [t.v] (.bl t.str)
theorem Tr.str_parts {t : Tr} : t.str = ((match t with | .branch _ => false | .loop _ => false | _ => true) && t.parts.all Tr.str) := by
  cases t <;> simp [Tr.str, Tr.parts, Tr.strs_all]
theorem straight_ok (T : Nat → Fn) (hp : PartsOk (T i19_parts_of)) (d : Nat) (ih : StraightOk (T i22_is_straight) d) : StraightOk (fnR 2 1 (m22_is_straight T)) (d + 1) := fun N t k hd => Pure1.of rfl fun μ => by
  have go : ∀ a r b, t.v = .tup (.str a :: r) → (("branch" : Str) == a || ("loop" : Str) == a) = !b → t.str = (b && t.parts.all Tr.str) → wo (m22_is_straight T [some t.v, none] μ) { rt := fun v σ => σ = μ ∧ pure? v = true ∧ v = .bl t.str } := fun a r b e h1 h2 => by
    unfold m22_is_straight
    rw [h2, e]
    (decreasing_trivial; repeat ((first | (with_reducible (refine w_len (by simp; done) ?_)) | (with_reducible (refine w_pow (by decide) (by decide) (by decide) ?_)) | fail); decreasing_trivial))
    refine w_ixT atI_0 ?_
    (decreasing_trivial; repeat ((first | (with_reducible (refine w_len (by simp; done) ?_)) | (with_reducible (refine w_pow (by decide) (by decide) (by decide) ?_)) | fail); decreasing_trivial))
    refine gNotIn_2 h1 ?_
    refine ⟨_, rfl, ?_⟩
    cases b with
    | false =>
      rw [if_neg (by simp)]
      exact ⟨rfl, rfl, rfl⟩
    | true =>
      rw [if_pos (by simp)]
      (decreasing_trivial; repeat ((first | (with_reducible (refine w_len (by simp; done) ?_)) | (with_reducible (refine w_pow (by decide) (by decide) (by decide) ?_)) | fail); decreasing_trivial))
      rw [← e]
      refine w_anyT ?_
      (decreasing_trivial; repeat ((first | (with_reducible (refine w_len (by simp; done) ?_)) | (with_reducible (refine w_pow (by decide) (by decide) (by decide) ?_)) | fail); decreasing_trivial))
      refine (hp t _).mono fun v σ ⟨e1, e2⟩ => ?_
      subst e1 e2
      refine ⟨_, rfl, ?_⟩
      refine parts_lc (f := T i22_is_straight) (r := fun p => .bl p.str) (by have := (Tr.parts_ok k).2; omega) (fun p hp σ => ⟨_, rfl, ?_⟩) ?_
      · (decreasing_trivial; repeat ((first | (with_reducible (refine w_len (by simp; done) ?_)) | (with_reducible (refine w_pow (by decide) (by decide) (by decide) ?_)) | fail); decreasing_trivial))
        exact ih N p ((Tr.parts_ok k).1 p hp) (Tr.parts_dep hd p hp) σ
      · (decreasing_trivial; repeat ((first | (with_reducible (refine w_len (by simp; done) ?_)) | (with_reducible (refine w_pow (by decide) (by decide) (by decide) ?_)) | fail); decreasing_trivial))
        refine w_all (bls_strs t.parts) ?_
        refine ⟨rfl, rfl, ?_⟩
        simp [List.all_map]
  simp only [startA_s, List.map_cons, List.map_nil, List.length_cons, List.length_nil, Nat.reduceAdd, Nat.reduceSub, List.replicate_succ, List.replicate_zero, List.cons_append, List.nil_append]
  cases t with
  | new x => exact go _ _ true rfl (by decide) Tr.str_parts
  | use x => exact go _ _ true rfl (by decide) Tr.str_parts
  | drop x => exact go _ _ true rfl (by decide) Tr.str_parts
  | copy x y => exact go _ _ true rfl (by decide) Tr.str_parts
  | seq ps => exact go _ _ true rfl (by decide) Tr.str_parts
  | branch ps => exact go _ _ false rfl (by decide) Tr.str_parts
  | loop p => exact go _ _ false rfl (by decide) Tr.str_parts
theorem plain_ok (T : Nat → Fn) (d : Nat) (ih : StraightOk (T i24_law_is_plain) d) : StraightOk (fnR 2 1 (m24_law_is_plain T)) (d + 1) := fun N t k hd => Pure1.of rfl fun μ => by
  have no : ∀ a r, (("loop" : Str) == a || ("branch" : Str) == a) = true → wo (m24_law_is_plain T [some (.tup (.str a :: r)), none] μ) { rt := fun v σ => σ = μ ∧ pure? v = true ∧ v = .bl false } := fun a r h1 => by
    unfold m24_law_is_plain
    (decreasing_trivial; repeat ((first | (with_reducible (refine w_len (by simp; done) ?_)) | (with_reducible (refine w_pow (by decide) (by decide) (by decide) ?_)) | fail); decreasing_trivial))
    refine w_ixT atI_0 ?_
    (decreasing_trivial; repeat ((first | (with_reducible (refine w_len (by simp; done) ?_)) | (with_reducible (refine w_pow (by decide) (by decide) (by decide) ?_)) | fail); decreasing_trivial))
    refine gIn_2 h1 ?_
    (decreasing_trivial; repeat ((first | (with_reducible (refine w_len (by simp; done) ?_)) | (with_reducible (refine w_pow (by decide) (by decide) (by decide) ?_)) | fail); decreasing_trivial))
    rw [if_pos rfl]
    (decreasing_trivial; repeat ((first | (with_reducible (refine w_len (by simp; done) ?_)) | (with_reducible (refine w_pow (by decide) (by decide) (by decide) ?_)) | fail); decreasing_trivial))
    exact ⟨rfl, rfl, rfl⟩
  have leaf : ∀ a r, (("loop" : Str) == a || ("branch" : Str) == a) = false → (a == ("seq" : Str)) = false → wo (m24_law_is_plain T [some (.tup (.str a :: r)), none] μ) { rt := fun v σ => σ = μ ∧ pure? v = true ∧ v = .bl true } := fun a r h1 h2 => by
    unfold m24_law_is_plain
    (decreasing_trivial; repeat ((first | (with_reducible (refine w_len (by simp; done) ?_)) | (with_reducible (refine w_pow (by decide) (by decide) (by decide) ?_)) | fail); decreasing_trivial))
    refine w_ixT atI_0 ?_
    (decreasing_trivial; repeat ((first | (with_reducible (refine w_len (by simp; done) ?_)) | (with_reducible (refine w_pow (by decide) (by decide) (by decide) ?_)) | fail); decreasing_trivial))
    refine gIn_2 h1 ?_
    (decreasing_trivial; repeat ((first | (with_reducible (refine w_len (by simp; done) ?_)) | (with_reducible (refine w_pow (by decide) (by decide) (by decide) ?_)) | fail); decreasing_trivial))
    rw [if_neg (by simp)]
    (decreasing_trivial; repeat ((first | (with_reducible (refine w_len (by simp; done) ?_)) | (with_reducible (refine w_pow (by decide) (by decide) (by decide) ?_)) | fail); decreasing_trivial))
    refine w_ixT atI_0 ?_
    (decreasing_trivial; repeat ((first | (with_reducible (refine w_len (by simp; done) ?_)) | (with_reducible (refine w_pow (by decide) (by decide) (by decide) ?_)) | fail); decreasing_trivial))
    refine gNe_s h2 ?_
    refine ⟨_, rfl, ?_⟩
    rw [if_pos (by simp)]
    exact ⟨rfl, rfl, rfl⟩
  simp only [startA_s, List.map_cons, List.map_nil, List.length_cons, List.length_nil, Nat.reduceAdd, Nat.reduceSub, List.replicate_succ, List.replicate_zero, List.cons_append, List.nil_append]
  cases t with
  | new x => exact leaf _ _ (by decide) (by decide)
  | use x => exact leaf _ _ (by decide) (by decide)
  | drop x => exact leaf _ _ (by decide) (by decide)
  | copy x y => exact leaf _ _ (by decide) (by decide)
  | branch ps => exact no _ _ (by decide)
  | loop p => exact no _ _ (by decide)
  | seq ps =>
    unfold m24_law_is_plain
    simp only [Tr.v]
    (decreasing_trivial; repeat ((first | (with_reducible (refine w_len (by simp; done) ?_)) | (with_reducible (refine w_pow (by decide) (by decide) (by decide) ?_)) | fail); decreasing_trivial))
    refine w_ixT rfl ?_
    (decreasing_trivial; repeat ((first | (with_reducible (refine w_len (by simp; done) ?_)) | (with_reducible (refine w_pow (by decide) (by decide) (by decide) ?_)) | fail); decreasing_trivial))
    refine gIn_2 (r := false) (by decide) ?_
    (decreasing_trivial; repeat ((first | (with_reducible (refine w_len (by simp; done) ?_)) | (with_reducible (refine w_pow (by decide) (by decide) (by decide) ?_)) | fail); decreasing_trivial))
    rw [if_neg (by simp)]
    (decreasing_trivial; repeat ((first | (with_reducible (refine w_len (by simp; done) ?_)) | (with_reducible (refine w_pow (by decide) (by decide) (by decide) ?_)) | fail); decreasing_trivial))
    refine w_ixT rfl ?_
    (decreasing_trivial; repeat ((first | (with_reducible (refine w_len (by simp; done) ?_)) | (with_reducible (refine w_pow (by decide) (by decide) (by decide) ?_)) | fail); decreasing_trivial))
    refine gNe_s (b := true) (by decide) ?_
    refine ⟨_, rfl, ?_⟩
    rw [if_neg (by simp)]
    (decreasing_trivial; repeat ((first | (with_reducible (refine w_len (by simp; done) ?_)) | (with_reducible (refine w_pow (by decide) (by decide) (by decide) ?_)) | fail); decreasing_trivial))
    refine w_anyT ?_
    refine w_op ?_
    (decreasing_trivial; repeat ((first | (with_reducible (refine w_len (by simp; done) ?_)) | (with_reducible (refine w_pow (by decide) (by decide) (by decide) ?_)) | fail); decreasing_trivial))
    refine w_ixT rfl ?_
    refine ⟨_, rfl, ?_⟩
    refine parts_lc (f := T i24_law_is_plain) (r := fun p => .bl p.str) (by have := k.1; omega) (fun p hp σ => ⟨_, rfl, ?_⟩) ?_
    · (decreasing_trivial; repeat ((first | (with_reducible (refine w_len (by simp; done) ?_)) | (with_reducible (refine w_pow (by decide) (by decide) (by decide) ?_)) | fail); decreasing_trivial))
      exact ih N p (Tr.oks_iff.mp k.2 p hp) (Tr.parts_dep hd p hp) σ
    · (decreasing_trivial; repeat ((first | (with_reducible (refine w_len (by simp; done) ?_)) | (with_reducible (refine w_pow (by decide) (by decide) (by decide) ?_)) | fail); decreasing_trivial))
      refine w_all (bls_strs ps) ?_
      refine ⟨rfl, rfl, ?_⟩
      simp [List.all_map, Tr.str, Tr.strs_all]
end Lr

namespace Lr
open PySem PySem.Spec L2
theorem w_aSl {ρ : Loc} {μ : Store} {QL : List AV → Store → Prop} {a : AE} {lo hi : AO'} (h : wp (a ρ μ) fun x μ1 => wp (lo ρ μ1) fun l μ2 => wp (hi ρ μ2) fun u μ3 => ∃ xs, lsOf μ3 x = some xs ∧ QL (cutA xs l u) μ3) : wp (aSl a lo hi ρ μ) QL := by
  unfold aSl
  rw [wp_bind]
  refine h.mono fun z μ3 h => ?_
  rw [wp_bind]
  refine h.mono fun z μ3 h => ?_
  rw [wp_bind]
  refine h.mono fun z μ3 h => ?_
  obtain ⟨xs, e, h⟩ := h
  simp only [e]
  exact h
def GoodT (t : Tr) : Prop := t.ok NM ∧ t.dep ≤ 9 ∧ t.nodes ≤ 60
theorem names_nm {xs : List Str} (h : xs.Sublist NM) : ∀ x ∈ xs, x ∈ NM := fun x hx => h.subset hx
theorem prog_good {v : AV} (h : ProgA v) : ∃ t, v = t.v ∧ GoodT t := by
  obtain ⟨t, xs, e, hs, _, hk, hd, hn, _⟩ := h
  exact ⟨t, e, Tr.ok_mono (names_nm hs) t hk, by omega, hn⟩
theorem good_few : ∀ t ∈ ([.seq [], .loop (.seq []), .seq [.seq [], .seq []], .branch [.seq [], .loop (.drop "a")]] : List Tr), GoodT t := by
  have h : ("a" : Str) ∈ NM := by decide
  intro t ht
  simp only [List.mem_cons, List.not_mem_nil, or_false] at ht
  rcases ht with rfl | rfl | rfl | rfl
  · exact ⟨⟨by decide, trivial⟩, by decide, by decide⟩
  · exact ⟨⟨by decide, trivial⟩, by decide, by decide⟩
  · exact ⟨⟨by decide, ⟨by decide, trivial⟩, ⟨by decide, trivial⟩, trivial⟩, by decide, by decide⟩
  · exact ⟨⟨⟨by decide, by decide⟩, ⟨by decide, trivial⟩, h, trivial⟩, by decide, by decide⟩
theorem ext_stp {n : Nat} {μ σ τ : Store} (a : Stp n μ σ) (b : Ext n σ τ) : Ext n μ τ := ⟨by rw [← a.1]; exact b.1, fun i h1 h2 => (b.2 i (by rw [a.1]; exact h1) h2).trans (a.2 i h2)⟩
theorem ext_trans {n : Nat} {μ σ τ : Store} (a : Ext n μ σ) (b : Ext n σ τ) : Ext n μ τ := ⟨Nat.le_trans a.1 b.1, fun i h1 h2 => (b.2 i (Nat.lt_of_lt_of_le h1 a.1) h2).trans (a.2 i h1 h2)⟩
def SomeOk (f : Fn) : Prop := ∀ (n : Nat) (count : Int), 0 ≤ count → count ≤ 8 → Draws f n [.loc n, .int count] 30000 (fun v => ∃ ts : List Tr, v = .lst (Tr.vs ts) ∧ ts.length ≤ 10 ∧ ∀ t ∈ ts, GoodT t)
theorem some_ok (T : Nat → Fn) (ho : OfOk (T i3_law_of)) (hn : NamesOk (T i7_law_names)) (hi : InsOk (T i4_law_instruction)) (hz : ∀ n, Draws (T i14_law_size) n [.loc n] 1 (fun v => ∃ i : Int, v = .int i ∧ 4 ≤ i ∧ i ≤ 40)) (hp : ProgOk (T i15_law_program)) : SomeOk (fnR 6 2 (m25_law_some_programs T)) := fun n count c0 c8 => by
  refine Draws.of rfl fun μ B hb hs => ?_
  have hlt := hs.lt
  simp only [startA_s, List.map_cons, List.map_nil, List.length_cons, List.length_nil, Nat.reduceAdd, Nat.reduceSub, List.replicate_succ, List.replicate_zero, List.cons_append, List.nil_append]
  unfold m25_law_some_programs
  refine o_seq2 (fun ρ1 σ => Ext n μ σ ∧ Hst σ n (B + 25000) ∧ ∃ (l : Nat) (ts : List Tr), μ.length ≤ l ∧ σ[l]? = some (.lst (Tr.vs ts)) ∧ ts.length ≤ 8 ∧ (∀ t ∈ ts, GoodT t) ∧ ρ1 = [some (.loc n), some (.int count), some (.loc l), none, none, none]) ?_ ?_
  · (decreasing_trivial; repeat ((first | (with_reducible (refine w_len (by simp; done) ?_)) | (with_reducible (refine w_pow (by decide) (by decide) (by decide) ?_)) | fail); decreasing_trivial))
    refine ⟨by omega, by omega, ?_⟩
    have hrl : (rangeL 0 count.toNat).length = count.toNat := by simp [rangeL]
    refine wp_lc (fun i acc σ => Stp n μ σ ∧ Hst σ n (B + 3001 * i) ∧ ∃ ts : List Tr, acc = Tr.vs ts ∧ ts.length = i ∧ ∀ t ∈ ts, GoodT t) (by rw [hrl]; omega) ?_ ?_ ?_ FUEL 0 _ _ (by rw [hrl]; unfold FUEL; omega) (by omega) ⟨Stp.refl n μ, hs, [], rfl, rfl, by simp⟩
    · rintro i acc σ ⟨_, _, ts, rfl, hl, _⟩
      rw [Tr.vs_len, hl]
    · rintro acc σ ⟨t3, h3, ts, rfl, hl, hg⟩
      rw [hrl] at hl h3
      (decreasing_trivial; repeat ((first | (with_reducible (refine w_len (by simp; done) ?_)) | (with_reducible (refine w_pow (by decide) (by decide) (by decide) ?_)) | fail); decreasing_trivial))
      refine ⟨t3.ext.push _, (h3.push _).le (by omega), σ.length, ts, by rw [t3.1]; exact Nat.le_refl _, push_get, by omega, hg, rfl⟩
    · rintro i v acc σ hv ⟨t3, h3, ts, rfl, hl, hg⟩
      obtain ⟨rfl, hi3⟩ := rng_mem hv
      have hi3 : i < 8 := by omega
      refine ⟨_, rfl, ?_⟩
      (decreasing_trivial; repeat ((first | (with_reducible (refine w_len (by simp; done) ?_)) | (with_reducible (refine w_pow (by decide) (by decide) (by decide) ?_)) | fail); decreasing_trivial))
      refine (hz n σ _ (by omega) h3).mono fun v σ2 ⟨s2, h2, _, sz, e, z1, z2⟩ => ?_
      subst e
      (decreasing_trivial; repeat ((first | (with_reducible (refine w_len (by simp; done) ?_)) | (with_reducible (refine w_pow (by decide) (by decide) (by decide) ?_)) | fail); decreasing_trivial))
      refine (hp n sz z1 z2 σ2 _ (by omega) h2).mono fun v σ3 ⟨s3, h4, _, hpv⟩ => ?_
      obtain ⟨t, e, gt⟩ := prog_good hpv
      subst e
      refine ⟨(t3.trans s2).trans s3, h4.le (by omega), ts ++ [t], by simp [Tr.vs_map], by simp [hl], ?_⟩
      intro u hu
      rcases List.mem_append.mp hu with h | h
      · exact hg u h
      · rw [List.mem_singleton.mp h]
        exact gt
  · rintro ρ1 σ ⟨x1, h1, l, ts, hl0, el, hl, hg, rfl⟩
    have hln : l ≠ n := by omega
    refine o_seq2 (fun ρ1 τ => Ext n μ τ ∧ Hst τ n (B + 25020) ∧ ∃ ts : List Tr, τ[l]? = some (.lst (Tr.vs ts)) ∧ ts.length ≤ 9 ∧ (∀ t ∈ ts, GoodT t) ∧ ρ1 = [some (.loc n), some (.int count), some (.loc l), none, none, none]) ?_ ?_
    · (decreasing_trivial; repeat ((first | (with_reducible (refine w_len (by simp; done) ?_)) | (with_reducible (refine w_pow (by decide) (by decide) (by decide) ?_)) | fail); decreasing_trivial))
      refine ⟨by simp [isLs, lsOf, el], ?_⟩
      (decreasing_trivial; repeat ((first | (with_reducible (refine w_len (by simp; done) ?_)) | (with_reducible (refine w_pow (by decide) (by decide) (by decide) ?_)) | fail); decreasing_trivial))
      refine (hn n 2 σ _ (by decide) (by decide) (by omega) h1).mono fun v τ ⟨e, x2, h2, xs, hx, hl2, hsub⟩ => ?_
      subst e
      (decreasing_trivial; repeat ((first | (with_reducible (refine w_len (by simp; done) ?_)) | (with_reducible (refine w_pow (by decide) (by decide) (by decide) ?_)) | fail); decreasing_trivial))
      have hl1 : l < σ.length := (List.getElem?_eq_some_iff.mp el).1
      refine (hi n σ.length xs (fun z => by rw [z] at hl2; simp at hl2) (by omega) τ _ (by have := h1.lt; omega) hx (by omega) h2).mono fun v τ2 ⟨s3, h3, _, t, e, hf, hk⟩ => ?_
      subst e
      have e3 : τ2[l]? = some (.lst (Tr.vs ts)) := (s3.2 l hln).trans ((x2.2 l hl1 hln).trans el)
      refine ⟨l, _, rfl, e3, by rw [Tr.vs_len]; omega, ?_⟩
      refine ⟨((ext_trans x1 x2).step s3).set _ (.inl hl0), (h3.set _ hln).le (by omega), ts ++ [t], ?_, by simp; omega, ?_, rfl⟩
      · rw [List.getElem?_set_self (List.getElem?_eq_some_iff.mp e3).1]
        simp [Tr.vs_map]
      · intro u hu
        rcases List.mem_append.mp hu with h | h
        · exact hg u h
        · rw [List.mem_singleton.mp h]
          exact ⟨Tr.ok_mono (names_nm hsub) t hk, by rw [leaf_dep hf]; omega, by rw [leaf_nodes hf]; omega⟩
    · rintro ρ2 τ ⟨x2, h2, ts, el, hl, hg, rfl⟩
      (decreasing_trivial; repeat ((first | (with_reducible (refine w_len (by simp; done) ?_)) | (with_reducible (refine w_pow (by decide) (by decide) (by decide) ?_)) | fail); decreasing_trivial))
      refine (ho n (Tr.vs [.seq [], .loop (.seq []), .seq [.seq [], .seq []], .branch [.seq [], .loop (.drop "a")]]) (by simp [Tr.vs]) (by simp [Tr.vs]) (Tr.vpures _) τ _ (by omega) h2).mono fun v τ2 ⟨s3, h3, pv, hv⟩ => ?_
      rw [Tr.vs_map] at hv
      obtain ⟨u, hu, e⟩ := List.mem_map.mp hv
      have gu := good_few u hu
      subst e
      have e3 : τ2[l]? = some (.lst (Tr.vs ts)) := (s3.2 l hln).trans el
      (decreasing_trivial; repeat ((first | (with_reducible (refine w_len (by simp; done) ?_)) | (with_reducible (refine w_pow (by decide) (by decide) (by decide) ?_)) | fail); decreasing_trivial))
      refine ⟨Tr.vs ts, [u.v], by simp only [lsOf, e3], rfl, by rw [Tr.vs_len]; simp; omega, ?_⟩
      have ea : Tr.vs ts ++ [u.v] = Tr.vs (ts ++ [u]) := by simp [Tr.vs_map]
      rw [ea]
      refine ⟨by simpa [pure?] using Tr.vpures _, x2.step s3, h3.le (by omega), ts ++ [u], rfl, by simp; omega, ?_⟩
      intro w hw
      rcases List.mem_append.mp hw with h | h
      · exact hg w h
      · rw [List.mem_singleton.mp h]
        exact gu

structure HInv (n l2 l3 l4 : Nat) (μ : Store) (C : Nat) (left alive : List Str) (parts : List Tr) (τ : Store) : Prop where
  ext : Ext n μ τ
  hst : Hst τ n C
  e2 : Has τ l2 left
  e3 : τ[l3]? = some (.lst (Tr.vs parts))
  e4 : Has τ l4 alive
  nl : ∀ x ∈ left, x ∈ NM
  na : ∀ x ∈ alive, x ∈ NM
  np : ∀ p ∈ parts, p.leaf = true ∧ p.ok NM
  la : 1 ≤ alive.length
section
variable {n l2 l3 l4 C C' : Nat} {μ τ τ' : Store} {left alive : List Str} {parts : List Tr}
theorem HInv.step (h : HInv n l2 l3 l4 μ C left alive parts τ) (n2 : l2 ≠ n) (n3 : l3 ≠ n) (n4 : l4 ≠ n) (s : Stp n τ τ') (hs : Hst τ' n C') : HInv n l2 l3 l4 μ C' left alive parts τ' :=
  ⟨h.ext.step s, hs, h.e2.stp n2 s, (s.2 l3 n3).trans h.e3, h.e4.stp n4 s, h.nl, h.na, h.np, h.la⟩
theorem HInv.part (h : HInv n l2 l3 l4 μ C left alive parts τ) (n3 : l3 ≠ n) (n23 : l2 ≠ l3) (n34 : l3 ≠ l4) (m3 : μ.length ≤ l3) {p : Tr} (hp : p.leaf = true ∧ p.ok NM) : HInv n l2 l3 l4 μ C left alive (parts ++ [p]) (τ.set l3 (.lst (Tr.vs parts ++ [p.v]))) where
  ext := h.ext.set _ (.inl m3)
  hst := h.hst.set _ n3
  e2 := by unfold Has; rw [List.getElem?_set_ne n23.symm]; exact h.e2
  e3 := by rw [List.getElem?_set_self (List.getElem?_eq_some_iff.mp h.e3).1]; simp [Tr.vs_map]
  e4 := by unfold Has; rw [List.getElem?_set_ne n34]; exact h.e4
  nl := h.nl
  na := h.na
  np := fun q hq => by
    rcases List.mem_append.mp hq with hq | hq
    · exact h.np q hq
    · rw [List.mem_singleton.mp hq]; exact hp
  la := h.la
end
theorem map_erase {xs : List Str} {j : Nat} : (xs.map AV.str).eraseIdx j = (xs.eraseIdx j).map AV.str := by
  rw [List.eraseIdx_eq_take_drop_succ, List.eraseIdx_eq_take_drop_succ, List.map_append, List.map_take, List.map_drop]
def HandedOk (f : Fn) : Prop := ∀ n : Nat, Draws f n [.loc n] 200 (fun v => ∃ ts : List Tr, v = (Tr.seq ts).v ∧ ts.length ≤ 20 ∧ ∀ t ∈ ts, t.leaf = true ∧ t.ok NM)
theorem handed_ok (T : Nat → Fn) (ht : TakeOk (T i2_law_take)) (ho : OfOk (T i3_law_of)) (ho2 : OfOk2 (T i3_law_of)) (hnm : NamesOk (T i7_law_names)) : HandedOk (fnR 8 1 (m26_law_handed T)) := fun n => by
  refine Draws.of rfl fun μ B hb hs => ?_
  have hlt := hs.lt
  simp only [startA_s, List.map_cons, List.map_nil, List.length_cons, List.length_nil, Nat.reduceAdd, Nat.reduceSub, List.replicate_succ, List.replicate_zero, List.cons_append, List.nil_append]
  unfold m26_law_handed
  refine o_seq2 (fun ρ1 σ => Ext n μ σ ∧ Hst σ n (B + 11) ∧ ∃ (l : Nat) (x : Str) (xs : List Str), μ.length ≤ l ∧ Has σ l (x :: xs) ∧ xs.length ≤ 7 ∧ (∀ y ∈ x :: xs, y ∈ NM) ∧ ρ1 = [some (.loc n), some (.loc l), none, none, none, none, none, none]) ?_ ?_
  · (decreasing_trivial; repeat ((first | (with_reducible (refine w_len (by simp; done) ?_)) | (with_reducible (refine w_pow (by decide) (by decide) (by decide) ?_)) | fail); decreasing_trivial))
    refine (ho n _ (by simp) (by simp) rfl μ _ (by omega) hs).mono fun v σ ⟨s1, h1, pv, hv⟩ => ?_
    obtain ⟨r, e, r1, r2⟩ : ∃ r : Int, v = .int r ∧ 2 ≤ r ∧ r ≤ 8 := by
      simp only [List.mem_cons, List.not_mem_nil, or_false] at hv
      rcases hv with h | h | h | h | h | h | h <;> exact ⟨_, h, by decide, by decide⟩
    subst e
    (decreasing_trivial; repeat ((first | (with_reducible (refine w_len (by simp; done) ?_)) | (with_reducible (refine w_pow (by decide) (by decide) (by decide) ?_)) | fail); decreasing_trivial))
    refine (hnm n r σ _ (by omega) (by omega) (by omega) h1).mono fun v σ2 ⟨e, x2, h2, xs, hx, hl, hsub⟩ => ?_
    subst e
    cases xs with
    | nil => simp at hl; omega
    | cons x xs =>
      rw [List.length_cons] at hl
      exact ⟨ext_stp s1 x2, h2.le (by omega), σ.length, x, xs, by rw [s1.1]; exact Nat.le_refl _, hx, by omega, names_nm hsub, rfl⟩
  · rintro ρ1 σ ⟨x1, h1, l, x, xs, hl0, hx, hxl, hxn, rfl⟩
    have hll : l < σ.length := (List.getElem?_eq_some_iff.mp hx).1
    have hln : n < σ.length := h1.lt
    have hls : μ.length ≤ σ.length := x1.1
    refine o_seq2 (fun ρ1 τ => ∃ (parts : List Tr) (left alive : List Str) (u : Int), HInv n σ.length (σ.length + 1) (σ.length + 2) μ (B + 11) left alive parts τ ∧ 0 ≤ u ∧ (parts.length + alive.length + 2 * left.length : Nat) + u ≤ 20 ∧ left.length ≤ 7 ∧ ρ1 = [some (.loc n), some (.loc l), some (.loc σ.length), some (.loc (σ.length + 1)), some (.loc (σ.length + 2)), some (.int u), none, none]) ?_ ?_
    · (decreasing_trivial; repeat ((first | (with_reducible (refine w_len (by simp; done) ?_)) | (with_reducible (refine w_pow (by decide) (by decide) (by decide) ?_)) | fail); decreasing_trivial))
      refine w_aSl ?_
      (decreasing_trivial; repeat ((first | (with_reducible (refine w_len (by simp; done) ?_)) | (with_reducible (refine w_pow (by decide) (by decide) (by decide) ?_)) | fail); decreasing_trivial))
      have ecut : cutA ((x :: xs).map AV.str) (some 1) none = xs.map AV.str := cut_hi (xs := (x :: xs).map AV.str) (i := 1) (by simp)
      refine ⟨(x :: xs).map AV.str, by simp only [lsOf, show σ[l]? = _ from hx], ?_⟩
      rw [ecut]
      (decreasing_trivial; repeat ((first | (with_reducible (refine w_len (by simp; done) ?_)) | (with_reducible (refine w_pow (by decide) (by decide) (by decide) ?_)) | fail); decreasing_trivial))
      refine w_ixO (xs := (x :: xs).map AV.str) (by rw [List.getElem?_append_left hll]; exact hx) atI_0 ?_
      (decreasing_trivial; repeat ((first | (with_reducible (refine w_len (by simp; done) ?_)) | (with_reducible (refine w_pow (by decide) (by decide) (by decide) ?_)) | fail); decreasing_trivial))
      refine w_ixO (xs := (x :: xs).map AV.str) (by rw [List.append_assoc, List.getElem?_append_left hll]; exact hx) atI_0 ?_
      (decreasing_trivial; repeat ((first | (with_reducible (refine w_len (by simp; done) ?_)) | (with_reducible (refine w_pow (by decide) (by decide) (by decide) ?_)) | fail); decreasing_trivial))
      refine ⟨[.new x], xs, [x], 4, ⟨((x1.push _).push _).push _, (((h1.push _).push _).push _).le (by omega), ?_, ?_, ?_, fun y hy => hxn y (List.mem_cons_of_mem _ hy), fun y hy => by rw [List.mem_singleton.mp hy]; exact hxn x List.mem_cons_self, fun p hp => by rw [List.mem_singleton.mp hp]; exact ⟨rfl, hxn x List.mem_cons_self⟩, by simp⟩, by decide, by simp; omega, hxl, ?_⟩
      · unfold Has; simp
      · simp [Tr.vs, Tr.v]
      · unfold Has; simp
      · simp
    · rintro ρ2 τ ⟨parts, left, alive, u, I, u0, hsum, hll7, rfl⟩
      have n2 : σ.length ≠ n := by omega
      have n3 : σ.length + 1 ≠ n := by omega
      have n4 : σ.length + 2 ≠ n := by omega
      refine o_seq2 (fun ρ1 τ => ∃ (parts : List Tr) (alive : List Str) (x5 x6 : Option AV), HInv n σ.length (σ.length + 1) (σ.length + 2) μ (B + 100) [] alive parts τ ∧ (parts.length + alive.length : Nat) ≤ 20 ∧ ρ1 = [some (.loc n), some (.loc l), some (.loc σ.length), some (.loc (σ.length + 1)), some (.loc (σ.length + 2)), x5, x6, none]) ?_ ?_
      · (decreasing_trivial; repeat ((first | (with_reducible (refine w_len (by simp; done) ?_)) | (with_reducible (refine w_pow (by decide) (by decide) (by decide) ?_)) | fail); decreasing_trivial))
        refine wo_while (fun m ρ τ => ∃ (parts : List Tr) (left alive : List Str) (u : Int) (x6 : Option AV), m = left.length ∧ HInv n σ.length (σ.length + 1) (σ.length + 2) μ (B + 11 + 10 * (7 - left.length)) left alive parts τ ∧ 0 ≤ u ∧ (parts.length + alive.length + 2 * left.length : Nat) + u ≤ 20 ∧ left.length ≤ 7 ∧ ρ = [some (.loc n), some (.loc l), some (.loc σ.length), some (.loc (σ.length + 1)), some (.loc (σ.length + 2)), some (.int u), x6, none]) ?_ FUEL left.length _ _ (by unfold FUEL; omega) ⟨parts, left, alive, u, none, rfl, I.step n2 n3 n4 (Stp.refl n τ) (I.hst.le (by omega)), u0, hsum, hll7, rfl⟩
        clear I hsum hll7 u0
        rintro m ρ τ ⟨parts, left, alive, u, x6, rfl, I, u0, hsum, hll7, rfl⟩
        (decreasing_trivial; repeat ((first | (with_reducible (refine w_len (by simp; done) ?_)) | (with_reducible (refine w_pow (by decide) (by decide) (by decide) ?_)) | fail); decreasing_trivial))
        have ee : eqB (.loc σ.length) (.lst []) τ = some left.isEmpty := by
          simp only [eqB, lsOf, show τ[σ.length]? = _ from I.e2, List.length_map]
          cases left <;> simp [eqvL]
        have dd : min (depM τ (.loc σ.length)) (depM τ (.lst [])) ≤ 150 := by
          simp only [depM, lsOf, depL]
          omega
        refine w_gNe ee dd ?_
        refine ⟨_, rfl, ?_⟩
        refine ite_k (fun h => ?_) (fun h => ?_)
        · have hne : 0 < left.length := by
            cases left with
            | nil => simp at h
            | cons a b => simp
          refine o_seq2 (fun ρ1 τ1 => ∃ (j : Nat) (x : Str), j < left.length ∧ x ∈ NM ∧ HInv n σ.length (σ.length + 1) (σ.length + 2) μ (B + 11 + 10 * (7 - left.length) + 1) (left.eraseIdx j) alive parts τ1 ∧ ρ1 = [some (.loc n), some (.loc l), some (.loc σ.length), some (.loc (σ.length + 1)), some (.loc (σ.length + 2)), some (.int u), some (.str x), none]) ?_ ?_
          · (decreasing_trivial; repeat ((first | (with_reducible (refine w_len (by simp; done) ?_)) | (with_reducible (refine w_pow (by decide) (by decide) (by decide) ?_)) | fail); decreasing_trivial))
            refine ⟨by simp [isLs, lsOf, show τ[σ.length]? = _ from I.e2], ?_⟩
            (decreasing_trivial; repeat ((first | (with_reducible (refine w_len (by simp; done) ?_)) | (with_reducible (refine w_pow (by decide) (by decide) (by decide) ?_)) | fail); decreasing_trivial))
            refine w_lenO I.e2 ?_
            (decreasing_trivial; repeat ((first | (with_reducible (refine w_len (by simp; done) ?_)) | (with_reducible (refine w_pow (by decide) (by decide) (by decide) ?_)) | fail); decreasing_trivial))
            rw [List.length_map]
            refine (ht n left.length (by omega) (by omega) τ _ (by omega) I.hst).mono fun v τ1 ⟨s1, h1, _, d, e, d0, d1⟩ => ?_
            subst e
            have I1 := I.step n2 n3 n4 s1 h1
            have hd : d.toNat < left.length := by omega
            refine ⟨σ.length, _, d, d.toNat, .str (left[d.toNat]), rfl, rfl, I1.e2, by rw [List.length_map]; exact ixN_nn d0 d1, by rw [List.length_map]; omega, by rw [List.getElem?_map, List.getElem?_eq_getElem hd]; rfl, ?_⟩
            refine ⟨d.toNat, left[d.toNat], hd, I.nl _ (List.getElem_mem hd), ⟨I1.ext.set _ (.inl (by omega)), I1.hst.set _ n2, ?_, ?_, ?_, fun y hy => I.nl y ((List.eraseIdx_sublist left _).subset hy), I.na, I.np, I.la⟩, rfl⟩
            · unfold Has
              rw [List.getElem?_set_self (List.getElem?_eq_some_iff.mp I1.e2).1, map_erase]
            · rw [List.getElem?_set_ne (by omega)]
              exact I1.e3
            · unfold Has
              rw [List.getElem?_set_ne (by omega)]
              exact I1.e4
          · rintro ρ3 τ1 ⟨j, x, hj, hx, I1, rfl⟩
            have hle : (left.eraseIdx j).length = left.length - 1 := by rw [List.length_eraseIdx]; simp [hj]
            have hpl : parts.length ≤ 20 := by omega
            have hal : alive.length ≤ 20 := by omega
            have name : ∀ (al : List Str) (τ : Store) (C : Nat), al ≠ [] → al.length ≤ 20 → (∀ y ∈ al, y ∈ NM) → Has τ (σ.length + 2) al → C + 1 ≤ 1000000000 → Hst τ n C → wp (T i3_law_of [.loc n, .loc (σ.length + 2)] τ) fun v τ2 => Stp n τ τ2 ∧ Hst τ2 n (C + 1) ∧ ∃ y, v = .str y ∧ y ∈ NM := fun al τ C h1 h2 h3 h4 h5 h6 => by
              refine (ho2 n _ (al.map AV.str) τ C n4 (by simpa using h1) (by rw [List.length_map]; omega) (pure_strs al) h4 h5 h6).mono fun v τ2 ⟨s, g, _, hm⟩ => ⟨s, g, ?_⟩
              obtain ⟨y, hy, e⟩ := List.mem_map.mp hm
              exact ⟨y, e.symm, h3 y hy⟩
            have ane : ∀ al : List Str, 1 ≤ al.length → al ≠ [] := fun al h z => by rw [z] at h; simp at h
            refine o_seq2 (fun ρ1 τ2 => ∃ y : Str, HInv n σ.length (σ.length + 1) (σ.length + 2) μ (B + 11 + 10 * (7 - left.length) + 2) (left.eraseIdx j) alive (parts ++ [.copy y x]) τ2 ∧ ρ1 = [some (.loc n), some (.loc l), some (.loc σ.length), some (.loc (σ.length + 1)), some (.loc (σ.length + 2)), some (.int u), some (.str x), none]) ?_ ?_
            · (decreasing_trivial; repeat ((first | (with_reducible (refine w_len (by simp; done) ?_)) | (with_reducible (refine w_pow (by decide) (by decide) (by decide) ?_)) | fail); decreasing_trivial))
              refine ⟨by simp [isLs, lsOf, I1.e3], ?_⟩
              (decreasing_trivial; repeat ((first | (with_reducible (refine w_len (by simp; done) ?_)) | (with_reducible (refine w_pow (by decide) (by decide) (by decide) ?_)) | fail); decreasing_trivial))
              refine (name alive τ1 _ (ane _ I1.la) hal I1.na I1.e4 (by omega) I1.hst).mono fun v τ2 ⟨s2, h2, y, e, hy⟩ => ?_
              subst e
              have I2 := I1.step n2 n3 n4 s2 h2
              (decreasing_trivial; repeat ((first | (with_reducible (refine w_len (by simp; done) ?_)) | (with_reducible (refine w_pow (by decide) (by decide) (by decide) ?_)) | fail); decreasing_trivial))
              refine ⟨σ.length + 1, _, rfl, I2.e3, by rw [Tr.vs_len]; omega, y, ?_, rfl⟩
              exact I2.part n3 (by omega) (by omega) (by omega) (p := .copy y x) ⟨rfl, hy, hx⟩
            · rintro ρ4 τ2 ⟨y, I2, rfl⟩
              refine o_seq2 (fun ρ1 τ3 => HInv n σ.length (σ.length + 1) (σ.length + 2) μ (B + 11 + 10 * (7 - left.length) + 2) (left.eraseIdx j) (alive ++ [x]) (parts ++ [.copy y x]) τ3 ∧ ρ1 = [some (.loc n), some (.loc l), some (.loc σ.length), some (.loc (σ.length + 1)), some (.loc (σ.length + 2)), some (.int u), some (.str x), none]) ?_ ?_
              · (decreasing_trivial; repeat ((first | (with_reducible (refine w_len (by simp; done) ?_)) | (with_reducible (refine w_pow (by decide) (by decide) (by decide) ?_)) | fail); decreasing_trivial))
                refine ⟨by simp [isLs, lsOf, show τ2[σ.length + 2]? = _ from I2.e4], ?_⟩
                (decreasing_trivial; repeat ((first | (with_reducible (refine w_len (by simp; done) ?_)) | (with_reducible (refine w_pow (by decide) (by decide) (by decide) ?_)) | fail); decreasing_trivial))
                refine ⟨σ.length + 2, _, rfl, I2.e4, by rw [List.length_map]; omega, ⟨I2.ext.set _ (.inl (by omega)), I2.hst.set _ n4, ?_, ?_, ?_, I2.nl, ?_, I2.np, by simp⟩, rfl⟩
                · unfold Has
                  rw [List.getElem?_set_ne (by omega)]
                  exact I2.e2
                · rw [List.getElem?_set_ne (by omega)]
                  exact I2.e3
                · unfold Has
                  rw [List.getElem?_set_self (List.getElem?_eq_some_iff.mp I2.e4).1]
                  simp
                · intro z hz
                  rcases List.mem_append.mp hz with hz | hz
                  · exact I2.na z hz
                  · rw [List.mem_singleton.mp hz]
                    exact hx
              · rintro ρ5 τ3 ⟨I3, rfl⟩
                have al3 : (alive ++ [x]).length = alive.length + 1 := by simp
                refine o_seq2 (fun ρ1 τ4 => ∃ (parts2 : List Tr) (u2 : Int), 0 ≤ u2 ∧ (parts2.length : Int) + u2 ≤ parts.length + 1 + u ∧ HInv n σ.length (σ.length + 1) (σ.length + 2) μ (B + 11 + 10 * (7 - left.length) + 4) (left.eraseIdx j) (alive ++ [x]) parts2 τ4 ∧ ρ1 = [some (.loc n), some (.loc l), some (.loc σ.length), some (.loc (σ.length + 1)), some (.loc (σ.length + 2)), some (.int u2), some (.str x), none]) ?_ ?_
                · (decreasing_trivial; repeat ((first | (with_reducible (refine w_len (by simp; done) ?_)) | (with_reducible (refine w_pow (by decide) (by decide) (by decide) ?_)) | fail); decreasing_trivial))
                  refine ite_k (fun h => ?_) (fun h => ?_)
                  · have h := of_decide_eq_true h
                    (decreasing_trivial; repeat ((first | (with_reducible (refine w_len (by simp; done) ?_)) | (with_reducible (refine w_pow (by decide) (by decide) (by decide) ?_)) | fail); decreasing_trivial))
                    refine (ht n 3 (by decide) (by decide) τ3 _ (by omega) I3.hst).mono fun v τ4 ⟨s4, h4, _, z, e, z0, z1⟩ => ?_
                    subst e
                    have I4 := I3.step n2 n3 n4 s4 h4
                    (decreasing_trivial; repeat ((first | (with_reducible (refine w_len (by simp; done) ?_)) | (with_reducible (refine w_pow (by decide) (by decide) (by decide) ?_)) | fail); decreasing_trivial))
                    refine gEq_i ?_
                    (decreasing_trivial; repeat ((first | (with_reducible (refine w_len (by simp; done) ?_)) | (with_reducible (refine w_pow (by decide) (by decide) (by decide) ?_)) | fail); decreasing_trivial))
                    refine ite_k (fun h2 => ?_) (fun h2 => ?_)
                    · (decreasing_trivial; repeat ((first | (with_reducible (refine w_len (by simp; done) ?_)) | (with_reducible (refine w_pow (by decide) (by decide) (by decide) ?_)) | fail); decreasing_trivial))
                      refine ⟨by simp [isLs, lsOf, I4.e3], ?_⟩
                      (decreasing_trivial; repeat ((first | (with_reducible (refine w_len (by simp; done) ?_)) | (with_reducible (refine w_pow (by decide) (by decide) (by decide) ?_)) | fail); decreasing_trivial))
                      refine (name _ τ4 _ (ane _ I4.la) (by omega) I4.na I4.e4 (by omega) I4.hst).mono fun v τ5 ⟨s5, h5, w, e, hw⟩ => ?_
                      subst e
                      have I5 := I4.step n2 n3 n4 s5 h5
                      (decreasing_trivial; repeat ((first | (with_reducible (refine w_len (by simp; done) ?_)) | (with_reducible (refine w_pow (by decide) (by decide) (by decide) ?_)) | fail); decreasing_trivial))
                      refine ⟨σ.length + 1, _, rfl, I5.e3, by rw [Tr.vs_len]; simp; omega, parts ++ [.copy y x] ++ [.use w], u - 1, by omega, by simp; omega, ?_, rfl⟩
                      have := I5.part n3 (by omega) (by omega) (by omega) (p := .use w) ⟨rfl, hw⟩
                      exact this.step n2 n3 n4 (Stp.refl n _) (this.hst.le (by omega))
                    · (decreasing_trivial; repeat ((first | (with_reducible (refine w_len (by simp; done) ?_)) | (with_reducible (refine w_pow (by decide) (by decide) (by decide) ?_)) | fail); decreasing_trivial))
                      exact ⟨parts ++ [.copy y x], u, u0, by simp, I4.step n2 n3 n4 (Stp.refl n _) (I4.hst.le (by omega)), rfl⟩
                  · (decreasing_trivial; repeat ((first | (with_reducible (refine w_len (by simp; done) ?_)) | (with_reducible (refine w_pow (by decide) (by decide) (by decide) ?_)) | fail); decreasing_trivial))
                    exact ⟨parts ++ [.copy y x], u, u0, by simp, I3.step n2 n3 n4 (Stp.refl n _) (I3.hst.le (by omega)), rfl⟩
                · rintro ρ6 τ4 ⟨parts2, u2, v0, hs2, I4, rfl⟩
                  have done : ∀ τ5, (∃ (al : List Str) (ps : List Tr), (ps.length + al.length : Nat) ≤ parts2.length + alive.length + 1 ∧ HInv n σ.length (σ.length + 1) (σ.length + 2) μ (B + 11 + 10 * (7 - left.length) + 7) (left.eraseIdx j) al ps τ5) → ∃ m', m' < left.length ∧ ∃ (parts : List Tr) (left alive : List Str) (u : Int) (x6 : Option AV), m' = left.length ∧ HInv n σ.length (σ.length + 1) (σ.length + 2) μ (B + 11 + 10 * (7 - left.length)) left alive parts τ5 ∧ 0 ≤ u ∧ (parts.length + alive.length + 2 * left.length : Nat) + u ≤ 20 ∧ left.length ≤ 7 ∧ ([some (.loc n), some (.loc l), some (.loc σ.length), some (.loc (σ.length + 1)), some (.loc (σ.length + 2)), some (.int u2), some (.str x), none] : Loc) = [some (.loc n), some (.loc l), some (.loc σ.length), some (.loc (σ.length + 1)), some (.loc (σ.length + 2)), some (.int u), x6, none] := by
                    rintro τ5 ⟨al, ps, hs3, I5⟩
                    exact ⟨(left.eraseIdx j).length, by omega, ps, left.eraseIdx j, al, u2, _, rfl, I5.step n2 n3 n4 (Stp.refl n _) (I5.hst.le (by omega)), v0, by omega, by omega, rfl⟩
                  (decreasing_trivial; repeat ((first | (with_reducible (refine w_len (by simp; done) ?_)) | (with_reducible (refine w_pow (by decide) (by decide) (by decide) ?_)) | fail); decreasing_trivial))
                  refine (ht n 2 (by decide) (by decide) τ4 _ (by omega) I4.hst).mono fun v τ5 ⟨s5, h5, _, z, e, z0, z1⟩ => ?_
                  subst e
                  have I5 := I4.step n2 n3 n4 s5 h5
                  (decreasing_trivial; repeat ((first | (with_reducible (refine w_len (by simp; done) ?_)) | (with_reducible (refine w_pow (by decide) (by decide) (by decide) ?_)) | fail); decreasing_trivial))
                  refine gEq_i ?_
                  (decreasing_trivial; repeat ((first | (with_reducible (refine w_len (by simp; done) ?_)) | (with_reducible (refine w_pow (by decide) (by decide) (by decide) ?_)) | fail); decreasing_trivial))
                  refine ite_k (fun h2 => ?_) (fun h2 => ?_)
                  · (decreasing_trivial; repeat ((first | (with_reducible (refine w_len (by simp; done) ?_)) | (with_reducible (refine w_pow (by decide) (by decide) (by decide) ?_)) | fail); decreasing_trivial))
                    refine w_lenO I5.e4 ?_
                    (decreasing_trivial; repeat ((first | (with_reducible (refine w_len (by simp; done) ?_)) | (with_reducible (refine w_pow (by decide) (by decide) (by decide) ?_)) | fail); decreasing_trivial))
                    rw [List.length_map]
                    refine ite_k (fun h3 => ?_) (fun h3 => ?_)
                    · have h3 := of_decide_eq_true h3
                      (decreasing_trivial; repeat ((first | (with_reducible (refine w_len (by simp; done) ?_)) | (with_reducible (refine w_pow (by decide) (by decide) (by decide) ?_)) | fail); decreasing_trivial))
                      refine ⟨by simp [isLs, lsOf, I5.e3], ?_⟩
                      (decreasing_trivial; repeat ((first | (with_reducible (refine w_len (by simp; done) ?_)) | (with_reducible (refine w_pow (by decide) (by decide) (by decide) ?_)) | fail); decreasing_trivial))
                      refine ⟨by simp [isLs, lsOf, show τ5[σ.length + 2]? = _ from I5.e4], ?_⟩
                      (decreasing_trivial; repeat ((first | (with_reducible (refine w_len (by simp; done) ?_)) | (with_reducible (refine w_pow (by decide) (by decide) (by decide) ?_)) | fail); decreasing_trivial))
                      refine w_lenO I5.e4 ?_
                      (decreasing_trivial; repeat ((first | (with_reducible (refine w_len (by simp; done) ?_)) | (with_reducible (refine w_pow (by decide) (by decide) (by decide) ?_)) | fail); decreasing_trivial))
                      rw [List.length_map]
                      refine (ht n (alive ++ [x]).length (by omega) (by omega) τ5 _ (by omega) I5.hst).mono fun v τ6 ⟨s6, h6, _, d, e, d0, d1⟩ => ?_
                      subst e
                      have I6 := I5.step n2 n3 n4 s6 h6
                      have hd : d.toNat < (alive ++ [x]).length := by omega
                      refine ⟨σ.length + 2, _, d, d.toNat, .str ((alive ++ [x])[d.toNat]), rfl, rfl, I6.e4, by rw [List.length_map]; exact ixN_nn d0 d1, by rw [List.length_map]; omega, by rw [List.getElem?_map, List.getElem?_eq_getElem hd]; rfl, ?_⟩
                      have hle2 : ((alive ++ [x]).eraseIdx d.toNat).length = alive.length := by rw [List.length_eraseIdx]; simp only [hd, if_true]; omega
                      have I7 : HInv n σ.length (σ.length + 1) (σ.length + 2) μ (B + 11 + 10 * (7 - left.length) + 7) (left.eraseIdx j) ((alive ++ [x]).eraseIdx d.toNat) parts2 (τ6.set (σ.length + 2) (.lst (((alive ++ [x]).map AV.str).eraseIdx d.toNat))) := by
                        refine ⟨I6.ext.set _ (.inl (by omega)), (I6.hst.set _ n4).le (by omega), ?_, ?_, ?_, I6.nl, fun y hy => I6.na y ((List.eraseIdx_sublist _ _).subset hy), I6.np, by omega⟩
                        · unfold Has
                          rw [List.getElem?_set_ne (by omega)]
                          exact I6.e2
                        · rw [List.getElem?_set_ne (by omega)]
                          exact I6.e3
                        · unfold Has
                          rw [List.getElem?_set_self (List.getElem?_eq_some_iff.mp I6.e4).1, map_erase]
                      (decreasing_trivial; repeat ((first | (with_reducible (refine w_len (by simp; done) ?_)) | (with_reducible (refine w_pow (by decide) (by decide) (by decide) ?_)) | fail); decreasing_trivial))
                      refine ⟨σ.length + 1, _, rfl, I7.e3, by rw [Tr.vs_len]; omega, ?_⟩
                      exact done _ ⟨_, _, by simp only [List.length_append, List.length_singleton, hle2]; omega, I7.part n3 (by omega) (by omega) (by omega) (p := .drop ((alive ++ [x])[d.toNat])) ⟨rfl, I6.na _ (List.getElem_mem hd)⟩⟩
                    · (decreasing_trivial; repeat ((first | (with_reducible (refine w_len (by simp; done) ?_)) | (with_reducible (refine w_pow (by decide) (by decide) (by decide) ?_)) | fail); decreasing_trivial))
                      exact done _ ⟨_, _, by omega, I5.step n2 n3 n4 (Stp.refl n _) (I5.hst.le (by omega))⟩
                  · (decreasing_trivial; repeat ((first | (with_reducible (refine w_len (by simp; done) ?_)) | (with_reducible (refine w_pow (by decide) (by decide) (by decide) ?_)) | fail); decreasing_trivial))
                    exact done _ ⟨_, _, by omega, I5.step n2 n3 n4 (Stp.refl n _) (I5.hst.le (by omega))⟩
        · have h0 : left = [] := by
            cases left with
            | nil => rfl
            | cons a b => simp at h
          subst h0
          exact ⟨parts, alive, _, _, I.step n2 n3 n4 (Stp.refl n _) (I.hst.le (by simp)), by simp at hsum; omega, rfl⟩
      · clear I hsum u0
        rintro ρ3 τ ⟨parts, alive, x5, x6, I, hsum, rfl⟩
        (decreasing_trivial; repeat ((first | (with_reducible (refine w_len (by simp; done) ?_)) | (with_reducible (refine w_pow (by decide) (by decide) (by decide) ?_)) | fail); decreasing_trivial))
        refine (ho n _ (by simp) (by simp) rfl τ _ (by omega) I.hst).mono fun v τ1 ⟨s1, h1, _, hv⟩ => ?_
        obtain ⟨r, e, r1, r2⟩ : ∃ r : Int, v = .int r ∧ 2 ≤ r ∧ r ≤ 99 := by
          simp only [List.mem_cons, List.not_mem_nil, or_false] at hv
          rcases hv with h | h | h <;> exact ⟨_, h, by decide, by decide⟩
        subst e
        have I1 := I.step n2 n3 n4 s1 h1
        (decreasing_trivial; repeat ((first | (with_reducible (refine w_len (by simp; done) ?_)) | (with_reducible (refine w_pow (by decide) (by decide) (by decide) ?_)) | fail); decreasing_trivial))
        refine w_tupO I1.e3 ?_
        (decreasing_trivial; repeat ((first | (with_reducible (refine w_len (by simp; done) ?_)) | (with_reducible (refine w_pow (by decide) (by decide) (by decide) ?_)) | fail); decreasing_trivial))
        refine w_anyO ?_
        (decreasing_trivial; repeat ((first | (with_reducible (refine w_len (by simp; done) ?_)) | (with_reducible (refine w_pow (by decide) (by decide) (by decide) ?_)) | fail); decreasing_trivial))
        refine ⟨σ.length + 2, _, rfl, I1.e4, ?_⟩
        refine wp_lcO (xs := alive.map AV.str) (fun i acc τ2 => Stp n τ1 τ2 ∧ Hst τ2 n (B + 101 + i) ∧ i ≤ alive.length ∧ ∃ ws : List Tr, acc = Tr.vs ws ∧ ws.length ≤ i ∧ ∀ w ∈ ws, w.leaf = true ∧ w.ok NM) (fun i acc τ2 h => I1.e4.stp n4 h.1) ?_ ?_ FUEL 0 _ _ (by rw [List.length_map]; unfold FUEL; omega) (by omega) ⟨Stp.refl n τ1, h1, Nat.zero_le _, [], rfl, Nat.zero_le _, by simp⟩
        · rintro acc τ2 ⟨t2, h2, _, ws, rfl, hwl, hw⟩
          rw [List.length_map] at hwl h2
          (decreasing_trivial; repeat ((first | (with_reducible (refine w_len (by simp; done) ?_)) | (with_reducible (refine w_pow (by decide) (by decide) (by decide) ?_)) | fail); decreasing_trivial))
          refine w_addT (by rw [Tr.vs_len, Tr.vs_len]; omega) ?_
          rw [← Tr.vs_app]
          (decreasing_trivial; repeat ((first | (with_reducible (refine w_len (by simp; done) ?_)) | (with_reducible (refine w_pow (by decide) (by decide) (by decide) ?_)) | fail); decreasing_trivial))
          have pv := Tr.vpures (parts ++ ws)
          refine ⟨by simp [pure?, pureL, pv], I1.ext.step t2, h2.le (by omega), parts ++ ws, rfl, by simp; omega, ?_⟩
          intro t htm
          rcases List.mem_append.mp htm with h | h
          · exact I1.np t h
          · exact hw t h
        · rintro i v acc τ2 hv ⟨t2, h2, hi2, ws, rfl, hwl, hw⟩
          rw [List.getElem?_map] at hv
          obtain ⟨x, hx, rfl⟩ := Option.map_eq_some_iff.mp hv
          have hil := (List.getElem?_eq_some_iff.mp hx).1
          refine ⟨_, rfl, ?_⟩
          (decreasing_trivial; repeat ((first | (with_reducible (refine w_len (by simp; done) ?_)) | (with_reducible (refine w_pow (by decide) (by decide) (by decide) ?_)) | fail); decreasing_trivial))
          refine (ht n r (by omega) (by omega) τ2 _ (by omega) h2).mono fun v τ3 ⟨s3, h3, _, z, e, z0, z1⟩ => ?_
          subst e
          (decreasing_trivial; repeat ((first | (with_reducible (refine w_len (by simp; done) ?_)) | (with_reducible (refine w_pow (by decide) (by decide) (by decide) ?_)) | fail); decreasing_trivial))
          refine ite_k (fun h => ?_) (fun h => ?_)
          · (decreasing_trivial; repeat ((first | (with_reducible (refine w_len (by simp; done) ?_)) | (with_reducible (refine w_pow (by decide) (by decide) (by decide) ?_)) | fail); decreasing_trivial))
            refine ⟨by rw [Tr.vs_len]; omega, t2.trans s3, h3.le (by omega), by omega, ws ++ [.use x], by simp [Tr.vs_map, Tr.v], by simp; omega, ?_⟩
            intro w hwm
            rcases List.mem_append.mp hwm with h | h
            · exact hw w h
            · rw [List.mem_singleton.mp h]
              exact ⟨rfl, I1.na x (List.mem_of_getElem? hx)⟩
          · exact ⟨t2.trans s3, h3.le (by omega), by omega, ws, rfl, by omega, hw⟩
end Lr


namespace Lr
open PySem PySem.Spec L2

def nmX : Nat → Option Str
  | 1 => some "instruction" | 3 => some "run" | 4 => some "object" | 5 => some "names" | 6 => some "unused" | 2 => some "many" | 11 => some "text"
  | _ => none
def toldT : RX → AV
  | .ok v => .tup [.str "told", v]
  | .ex c (some v) => .tup [.str ((nmX c).getD "other"), v]
  | .ex _ none => .non
def RX.good : RX → Bool
  | .ok v => pure? v
  | .ex c (some v) => (nmX c).isSome && pure? v
  | .ex _ none => false
theorem thR_of {n : Nat} {b : AS} {μ : Store} {r : AV} (h : wo (b (List.replicate n none) μ) { rt := fun v σ => μ <+: σ ∧ pure? v = true ∧ v = r }) : thR n b μ = .ok r μ := by
  unfold thR
  cases e : b (List.replicate n none) μ with
  | rt v σ =>
    rw [e] at h
    obtain ⟨h1, h2, rfl⟩ := h
    exact gc_pure h2 h1
  | nx ρ σ => rw [e] at h; exact False.elim h
  | ex c p ρ σ => rw [e] at h; exact False.elim h
  | bk ρ σ => rw [e] at h; exact False.elim h
  | ct ρ σ => rw [e] at h; exact False.elim h
  | bad => rw [e] at h; exact False.elim h
theorem lsOf_o {μ : Store} {n : Nat} {xs : List AV} (e : μ[n]? = some (.lst xs)) : lsOf μ (.loc n) = some xs := by simp [lsOf, e]
theorem w_cntB {o a : AE} {ρ : Loc} {μ : Store} {Q : AV → Store → Prop} (h : wp (o ρ μ) fun l μ1 => isLs μ1 l = true ∧ wp (a ρ μ1) fun v μ2 => ∃ xs bs b, lsOf μ2 l = some xs ∧ v = .bl b ∧ blsOf xs = some bs ∧ Q (.int ((bs.countP fun z => z == b : Nat) : Int)) μ2) : wp (eCntB o a ρ μ) Q := by
  unfold eCntB
  rw [wp_bind]
  refine h.mono fun l μ1 ⟨hl, h⟩ => ?_
  rw [if_pos hl, wp_bind]
  refine h.mono fun v μ2 ⟨xs, bs, b, e1, e2, e3, h⟩ => ?_
  subst e2
  simp only [e1, e3]
  exact h
theorem w_idxB {o a : AE} {ρ : Loc} {μ : Store} {Q : AV → Store → Prop} (h : wp (o ρ μ) fun l μ1 => isLs μ1 l = true ∧ wp (a ρ μ1) fun v μ2 => ∃ xs bs b j, lsOf μ2 l = some xs ∧ v = .bl b ∧ blsOf xs = some bs ∧ bs.findIdx? (fun z => z == b) = some j ∧ Q (.int (j : Nat)) μ2) : wp (eIdxB o a ρ μ) Q := by
  unfold eIdxB
  rw [wp_bind]
  refine h.mono fun l μ1 ⟨hl, h⟩ => ?_
  rw [if_pos hl, wp_bind]
  refine h.mono fun v μ2 ⟨xs, bs, b, j, e1, e2, e3, e4, h⟩ => ?_
  subst e2
  simp only [e1, e3, e4]
  exact h
theorem w_isN {x : AV} {μ : Store} {Q : AV → Store → Prop} {b : Bool} (e : gIs x .non μ = .ok (.bl b) μ) (h : Q (.bl b) μ) : wp (gIs x .non μ) Q := by rw [e]; exact h
def kinds7 (c : Nat) : List AV := [.bl (isub c 1), .bl (isub c 3), .bl (isub c 4), .bl (isub c 5), .bl (isub c 6), .bl (isub c 2), .bl (isub c 11)]
theorem lam_told (T : Nat → Fn) {rb : AE} {ρ : Loc} {μ : Store} {r : RX} (h : rb ρ μ = r.res μ) (g : r.good = true) : eLam (mth436_law_raised T) 5 rb ρ μ = .ok (toldT r) μ := by
  refine thR_of ?_
  unfold mth436_law_raised thB
  refine o_seq ?_
  show wo (sNon2 1 2 _ μ) _
  unfold sNon2
  simp only [List.replicate_succ, List.replicate_zero, List.set_cons_succ, List.set_cons_zero]
  refine o_seq ?_
  unfold sTry sThunk
  dsimp only
  rw [h]
  cases r with
  | ok v =>
    have hp : pure? v = true := g
    simp only [RX.res, Res.out_ok, List.set_cons_succ, List.set_cons_zero]
    rw [wo_nx]
    dsimp only
    decreasing_trivial
    refine w_isN (b := true) rfl ?_
    (decreasing_trivial; repeat ((first | (with_reducible (refine w_len (by simp; done) ?_)) | (with_reducible (refine w_pow (by decide) (by decide) (by decide) ?_)) | fail); decreasing_trivial))
    rw [if_pos rfl]
    (decreasing_trivial; repeat ((first | (with_reducible (refine w_len (by simp; done) ?_)) | (with_reducible (refine w_pow (by decide) (by decide) (by decide) ?_)) | fail); decreasing_trivial))
    exact ⟨List.prefix_refl _, by simp [pure?, pureL, hp], rfl⟩
  | ex c p =>
    cases p with
    | none => cases g
    | some v =>
      simp only [RX.good, Bool.and_eq_true] at g
      obtain ⟨g, hp⟩ := g
      obtain ⟨nm, e0⟩ := Option.isSome_iff_exists.mp g
      obtain ⟨j, e1, e2, e3⟩ : ∃ j : Nat, [isub c 1, isub c 3, isub c 4, isub c 5, isub c 6, isub c 2, isub c 11].countP (fun z => z == true) = 1 ∧ [isub c 1, isub c 3, isub c 4, isub c 5, isub c 6, isub c 2, isub c 11].findIdx? (fun z => z == true) = some j ∧
          atI [AV.str "instruction", .str "run", .str "object", .str "names", .str "unused", .str "many", .str "text"] (j : Int) = some (.str nm) := by
        unfold nmX at e0
        split at e0 <;> first | (cases e0; done) | (cases e0; exact ⟨_, by decide, rfl, rfl⟩)
      have e4 : isub c 0 = true := by unfold isub; simp
      simp only [RX.res, Res.out_ex, e4, if_true, List.set_cons_succ, List.set_cons_zero, toldT, e0, Option.getD_some]
      rw [wo_nx]
      dsimp only
      have ex : (μ ++ [AO.exc c (some v)])[μ.length]? = some (.exc c (some v)) := by simp
      have hl : (μ ++ [AO.exc c (some v)]).length = μ.length + 1 := by simp
      have hpre : μ <+: μ ++ [AO.exc c (some v)] := List.prefix_append _ _
      revert ex hl hpre
      generalize μ ++ [AO.exc c (some v)] = σ
      intro ex hl hpre
      decreasing_trivial
      refine w_isN (b := false) rfl ?_
      (decreasing_trivial; repeat ((first | (with_reducible (refine w_len (by simp; done) ?_)) | (with_reducible (refine w_pow (by decide) (by decide) (by decide) ?_)) | fail); decreasing_trivial))
      rw [if_neg (by simp)]
      (decreasing_trivial; repeat ((first | (with_reducible (refine w_len (by simp; done) ?_)) | (with_reducible (refine w_pow (by decide) (by decide) (by decide) ?_)) | fail); decreasing_trivial))
      refine w_isx ex ?_
      (decreasing_trivial; repeat ((first | (with_reducible (refine w_len (by simp; done) ?_)) | (with_reducible (refine w_pow (by decide) (by decide) (by decide) ?_)) | fail); decreasing_trivial))
      refine w_isx ex ?_
      (decreasing_trivial; repeat ((first | (with_reducible (refine w_len (by simp; done) ?_)) | (with_reducible (refine w_pow (by decide) (by decide) (by decide) ?_)) | fail); decreasing_trivial))
      refine w_isx ex ?_
      (decreasing_trivial; repeat ((first | (with_reducible (refine w_len (by simp; done) ?_)) | (with_reducible (refine w_pow (by decide) (by decide) (by decide) ?_)) | fail); decreasing_trivial))
      have e5 : (σ ++ [AO.lst [AV.bl (isub c 1), AV.bl (isub c 3), AV.bl (isub c 4)]])[μ.length]? = some (.exc c (some v)) := by rw [List.getElem?_append_left (by omega)]; exact ex
      have e6 : (σ ++ [AO.lst [AV.bl (isub c 1), AV.bl (isub c 3), AV.bl (isub c 4)]])[σ.length]? = some (.lst [AV.bl (isub c 1), AV.bl (isub c 3), AV.bl (isub c 4)]) := by simp
      have hp6 : μ <+: σ ++ [AO.lst [AV.bl (isub c 1), AV.bl (isub c 3), AV.bl (isub c 4)]] := hpre.trans (List.prefix_append _ _)
      revert e5 e6 hp6
      generalize σ ++ [AO.lst [AV.bl (isub c 1), AV.bl (isub c 3), AV.bl (isub c 4)]] = τ
      intro e5 e6 hp6
      refine w_isx e5 ?_
      (decreasing_trivial; repeat ((first | (with_reducible (refine w_len (by simp; done) ?_)) | (with_reducible (refine w_pow (by decide) (by decide) (by decide) ?_)) | fail); decreasing_trivial))
      refine w_isx e5 ?_
      (decreasing_trivial; repeat ((first | (with_reducible (refine w_len (by simp; done) ?_)) | (with_reducible (refine w_pow (by decide) (by decide) (by decide) ?_)) | fail); decreasing_trivial))
      refine w_isx e5 ?_
      (decreasing_trivial; repeat ((first | (with_reducible (refine w_len (by simp; done) ?_)) | (with_reducible (refine w_pow (by decide) (by decide) (by decide) ?_)) | fail); decreasing_trivial))
      refine ⟨_, _, lsOf_o e6, rfl, by simp, ?_⟩
      have e7 : (τ ++ [AO.lst ([AV.bl (isub c 1), AV.bl (isub c 3), AV.bl (isub c 4)] ++ [AV.bl (isub c 5), AV.bl (isub c 6), AV.bl (isub c 2)])])[μ.length]? = some (.exc c (some v)) := by rw [List.getElem?_append_left (List.getElem?_eq_some_iff.mp e5).1]; exact e5
      have e8 : (τ ++ [AO.lst ([AV.bl (isub c 1), AV.bl (isub c 3), AV.bl (isub c 4)] ++ [AV.bl (isub c 5), AV.bl (isub c 6), AV.bl (isub c 2)])])[τ.length]? = some (.lst ([AV.bl (isub c 1), AV.bl (isub c 3), AV.bl (isub c 4)] ++ [AV.bl (isub c 5), AV.bl (isub c 6), AV.bl (isub c 2)])) := by simp
      have hp8 : μ <+: τ ++ [AO.lst ([AV.bl (isub c 1), AV.bl (isub c 3), AV.bl (isub c 4)] ++ [AV.bl (isub c 5), AV.bl (isub c 6), AV.bl (isub c 2)])] := hp6.trans (List.prefix_append _ _)
      have hlt : μ.length ≤ τ.length := hp6.length_le
      have hne : μ.length ≠ τ.length := fun z => by
        have := (List.getElem?_eq_some_iff.mp e5).1
        omega
      revert e7 e8 hp8
      generalize τ ++ [AO.lst ([AV.bl (isub c 1), AV.bl (isub c 3), AV.bl (isub c 4)] ++ [AV.bl (isub c 5), AV.bl (isub c 6), AV.bl (isub c 2)])] = φ
      intro e7 e8 hp8
      (decreasing_trivial; repeat ((first | (with_reducible (refine w_len (by simp; done) ?_)) | (with_reducible (refine w_pow (by decide) (by decide) (by decide) ?_)) | fail); decreasing_trivial))
      refine ⟨by unfold isLs; rw [lsOf_o e8]; rfl, ?_⟩
      (decreasing_trivial; repeat ((first | (with_reducible (refine w_len (by simp; done) ?_)) | (with_reducible (refine w_pow (by decide) (by decide) (by decide) ?_)) | fail); decreasing_trivial))
      refine w_isx e7 ?_
      refine ⟨τ.length, _, rfl, e8, by simp, ?_⟩
      have f7 : (φ.set τ.length (AO.lst ([AV.bl (isub c 1), AV.bl (isub c 3), AV.bl (isub c 4)] ++ [AV.bl (isub c 5), AV.bl (isub c 6), AV.bl (isub c 2)] ++ [AV.bl (isub c 11)])))[μ.length]? = some (.exc c (some v)) := by rw [List.getElem?_set_ne (Ne.symm hne)]; exact e7
      have f8 : (φ.set τ.length (AO.lst ([AV.bl (isub c 1), AV.bl (isub c 3), AV.bl (isub c 4)] ++ [AV.bl (isub c 5), AV.bl (isub c 6), AV.bl (isub c 2)] ++ [AV.bl (isub c 11)])))[τ.length]? = some (.lst ([AV.bl (isub c 1), AV.bl (isub c 3), AV.bl (isub c 4), AV.bl (isub c 5), AV.bl (isub c 6), AV.bl (isub c 2), AV.bl (isub c 11)])) := by
        rw [List.getElem?_set_self (List.getElem?_eq_some_iff.mp e8).1] <;> rfl
      have hp9 : μ <+: φ.set τ.length (AO.lst ([AV.bl (isub c 1), AV.bl (isub c 3), AV.bl (isub c 4)] ++ [AV.bl (isub c 5), AV.bl (isub c 6), AV.bl (isub c 2)] ++ [AV.bl (isub c 11)])) := pre_set hp8 hlt
      revert f7 f8 hp9
      generalize φ.set τ.length (AO.lst ([AV.bl (isub c 1), AV.bl (isub c 3), AV.bl (isub c 4)] ++ [AV.bl (isub c 5), AV.bl (isub c 6), AV.bl (isub c 2)] ++ [AV.bl (isub c 11)])) = ψ
      intro f7 f8 hp9
      (decreasing_trivial; repeat ((first | (with_reducible (refine w_len (by simp; done) ?_)) | (with_reducible (refine w_pow (by decide) (by decide) (by decide) ?_)) | fail); decreasing_trivial))
      refine w_cntB ?_
      (decreasing_trivial; repeat ((first | (with_reducible (refine w_len (by simp; done) ?_)) | (with_reducible (refine w_pow (by decide) (by decide) (by decide) ?_)) | fail); decreasing_trivial))
      refine ⟨by unfold isLs; rw [lsOf_o f8]; rfl, ?_⟩
      (decreasing_trivial; repeat ((first | (with_reducible (refine w_len (by simp; done) ?_)) | (with_reducible (refine w_pow (by decide) (by decide) (by decide) ?_)) | fail); decreasing_trivial))
      refine ⟨_, _, _, lsOf_o f8, rfl, rfl, ?_⟩
      rw [e1]
      (decreasing_trivial; repeat ((first | (with_reducible (refine w_len (by simp; done) ?_)) | (with_reducible (refine w_pow (by decide) (by decide) (by decide) ?_)) | fail); decreasing_trivial))
      refine gNe_i ?_
      refine ⟨_, rfl, ?_⟩
      rw [if_neg (by decide)]
      (decreasing_trivial; repeat ((first | (with_reducible (refine w_len (by simp; done) ?_)) | (with_reducible (refine w_pow (by decide) (by decide) (by decide) ?_)) | fail); decreasing_trivial))
      refine w_isxV f7 ?_
      refine ⟨_, rfl, ?_⟩
      rw [if_neg (by simp)]
      (decreasing_trivial; repeat ((first | (with_reducible (refine w_len (by simp; done) ?_)) | (with_reducible (refine w_pow (by decide) (by decide) (by decide) ?_)) | fail); decreasing_trivial))
      refine w_idxB ?_
      (decreasing_trivial; repeat ((first | (with_reducible (refine w_len (by simp; done) ?_)) | (with_reducible (refine w_pow (by decide) (by decide) (by decide) ?_)) | fail); decreasing_trivial))
      refine ⟨by unfold isLs; rw [lsOf_o f8]; rfl, ?_⟩
      (decreasing_trivial; repeat ((first | (with_reducible (refine w_len (by simp; done) ?_)) | (with_reducible (refine w_pow (by decide) (by decide) (by decide) ?_)) | fail); decreasing_trivial))
      refine ⟨_, _, _, j, lsOf_o f8, rfl, rfl, e2, ?_⟩
      refine w_ixL e3 ?_
      (decreasing_trivial; repeat ((first | (with_reducible (refine w_len (by simp; done) ?_)) | (with_reducible (refine w_pow (by decide) (by decide) (by decide) ?_)) | fail); decreasing_trivial))
      refine w_val ?_
      (decreasing_trivial; repeat ((first | (with_reducible (refine w_len (by simp; done) ?_)) | (with_reducible (refine w_pow (by decide) (by decide) (by decide) ?_)) | fail); decreasing_trivial))
      refine ⟨_, _, _, rfl, f7, ?_⟩
      (decreasing_trivial; repeat ((first | (with_reducible (refine w_len (by simp; done) ?_)) | (with_reducible (refine w_pow (by decide) (by decide) (by decide) ?_)) | fail); decreasing_trivial))
      exact ⟨hp9, by simp [pure?, pureL, hp], rfl⟩

def isNum (n : Nat) : AV → Bool
  | .int i => decide (0 ≤ i) && decide (i < (n : Int))
  | _ => false
theorem isNum_int {n : Nat} {i : Int} : isNum n (.int i) = (decide (0 ≤ i) && decide (i < (n : Int))) := rfl
theorem isi_int {v : AV} {μ : Store} {Q : AV → Store → Prop} (hv : sh v = true) (h1 : ∀ i, v = .int i → Q (.bl true) μ) (h2 : ∀ b, v = .bl b → Q (.bl true) μ) (h3 : (∀ i, v ≠ .int i) → (∀ b, v ≠ .bl b) → Q (.bl false) μ) : wp (gIsi [v, .ty "int"] μ) Q := by
  obtain ⟨k, ek, hk⟩ := kind_sh hv
  have em := kind_eq (μ := μ) (sh_pure v hv) ek
  cases v <;> first | (simp [sh] at hv; done) | cases ek
  case int.refl => exact w_isi em (by decide) (h1 _ rfl)
  case bl.refl => exact w_isi em (by decide) (h2 _ rfl)
  all_goals exact w_isi em (by decide) (h3 (fun _ e => nomatch e) (fun _ e => nomatch e))
theorem isi_bool {v : AV} {μ : Store} {Q : AV → Store → Prop} (hv : sh v = true) (h2 : ∀ b, v = .bl b → Q (.bl true) μ) (h3 : (∀ b, v ≠ .bl b) → Q (.bl false) μ) : wp (gIsi [v, .ty "bool"] μ) Q := by
  obtain ⟨k, ek, hk⟩ := kind_sh hv
  have em := kind_eq (μ := μ) (sh_pure v hv) ek
  cases v <;> first | (simp [sh] at hv; done) | cases ek
  case bl.refl => exact w_isi em (by decide) (h2 _ rfl)
  all_goals exact w_isi em (by decide) (h3 (fun _ e => nomatch e))
theorem isNum_not {n : Nat} {v : AV} (h : ∀ i, v ≠ .int i) : isNum n v = false := by
  cases v <;> first | rfl | exact absurd rfl (h _)
def CheckOk (f : Fn) : Prop := ∀ (t : Tr) (v : AV), t.ok NM → t.dep ≤ 9 → t.ins.length ≤ 100000 → sh v = true → PureX f [t.v, v] (if isNum t.ins.length v = true then .ok .non else .ex 1 (some v))
theorem check_ok (T : Nat → Fn) (hi : InstrsOk (T i20_instructions) 9) : CheckOk (fnR 2 2 (m29_check_number T)) := fun t v k hd hz hv => PureX.of rfl fun μ => by
  simp only [startA_s, List.map_cons, List.map_nil, List.length_cons, List.length_nil, Nat.reduceAdd, Nat.reduceSub, List.replicate_succ, List.replicate_zero, List.cons_append, List.nil_append]
  unfold m29_check_number
  refine x_if ?_
  have bad : isNum t.ins.length v = false → woX (sRaise 1 (aCons (eVar 1) aNil) [some t.v, some v] μ) { nx := fun _ σ => μ <+: σ ∧ (if isNum t.ins.length v = true then RX.ok .non else .ex 1 (some v)) = .ok .non, rt := fun u σ => μ <+: σ ∧ pure? u = true ∧ (if isNum t.ins.length v = true then RX.ok .non else .ex 1 (some v)) = .ok u } (fun c p σ => σ = μ ∧ (if isNum t.ins.length v = true then RX.ok .non else .ex 1 (some v)) = .ex c p) := fun h => by
    refine x_raise ?_
    (decreasing_trivial; repeat ((first | (with_reducible (refine w_len (by simp; done) ?_)) | (with_reducible (refine w_pow (by decide) (by decide) (by decide) ?_)) | fail); decreasing_trivial))
    exact ⟨rfl, by rw [h]; rfl⟩
  (decreasing_trivial; repeat ((first | (with_reducible (refine w_len (by simp; done) ?_)) | (with_reducible (refine w_pow (by decide) (by decide) (by decide) ?_)) | fail); decreasing_trivial))
  refine isi_int hv (fun i e => ?_) (fun b e => ?_) (fun h1 h2 => ?_)
  · subst e
    refine ⟨_, rfl, ?_⟩
    rw [if_neg (by simp)]
    (decreasing_trivial; repeat ((first | (with_reducible (refine w_len (by simp; done) ?_)) | (with_reducible (refine w_pow (by decide) (by decide) (by decide) ?_)) | fail); decreasing_trivial))
    refine isi_bool hv (fun b e => nomatch e) (fun _ => ?_)
    refine ⟨_, rfl, ?_⟩
    rw [if_neg (by simp)]
    (decreasing_trivial; repeat ((first | (with_reducible (refine w_len (by simp; done) ?_)) | (with_reducible (refine w_pow (by decide) (by decide) (by decide) ?_)) | fail); decreasing_trivial))
    refine ite_k (fun h => ?_) (fun h => ?_)
    · (decreasing_trivial; repeat ((first | (with_reducible (refine w_len (by simp; done) ?_)) | (with_reducible (refine w_pow (by decide) (by decide) (by decide) ?_)) | fail); decreasing_trivial))
      refine (hi NM t k hd hz μ).mono fun u σ ⟨e1, e2⟩ => ?_
      subst e1 e2
      (decreasing_trivial; repeat ((first | (with_reducible (refine w_len (by simp; done) ?_)) | (with_reducible (refine w_pow (by decide) (by decide) (by decide) ?_)) | fail); decreasing_trivial))
      rw [Tr.vs_len]
      refine ite_k (fun h2 => ?_) (fun h2 => ?_)
      · have e3 : isNum t.ins.length (.int i) = false := by rw [isNum_int, h]; simpa using h2
        exact bad e3
      · have e3 : isNum t.ins.length (.int i) = true := by rw [isNum_int, h]; simpa using h2
        exact ⟨List.prefix_refl _, by rw [e3]; rfl⟩
    · refine ⟨_, rfl, ?_⟩
      rw [if_pos (by simp)]
      exact bad (by rw [isNum_int, h]; rfl)
  · subst e
    refine ⟨_, rfl, ?_⟩
    rw [if_neg (by simp)]
    (decreasing_trivial; repeat ((first | (with_reducible (refine w_len (by simp; done) ?_)) | (with_reducible (refine w_pow (by decide) (by decide) (by decide) ?_)) | fail); decreasing_trivial))
    refine isi_bool hv (fun b e => ?_) (fun h => absurd rfl (h _))
    refine ⟨_, rfl, ?_⟩
    rw [if_pos rfl]
    rw [if_pos rfl]
    exact bad rfl
  · refine ⟨_, rfl, ?_⟩
    rw [if_pos (by simp)]
    rw [if_pos rfl]
    exact bad (isNum_not h1)
def IsNumOk (f : Fn) : Prop := ∀ (v : AV) (n : Nat), sh v = true → Pure1 f [v, .int (n : Int)] (.bl (isNum n v))
theorem isnum_ok (T : Nat → Fn) : IsNumOk (fnR 2 2 (m46_law_is_number T)) := fun v n hv => Pure1.of rfl fun μ => by
  simp only [startA_s, List.map_cons, List.map_nil, List.length_cons, List.length_nil, Nat.reduceAdd, Nat.reduceSub, List.replicate_succ, List.replicate_zero, List.cons_append, List.nil_append]
  unfold m46_law_is_number
  (decreasing_trivial; repeat ((first | (with_reducible (refine w_len (by simp; done) ?_)) | (with_reducible (refine w_pow (by decide) (by decide) (by decide) ?_)) | fail); decreasing_trivial))
  refine isi_int hv (fun i e => ?_) (fun b e => ?_) (fun h1 h2 => ?_)
  · subst e
    refine ⟨_, rfl, ?_⟩
    rw [if_pos rfl]
    (decreasing_trivial; repeat ((first | (with_reducible (refine w_len (by simp; done) ?_)) | (with_reducible (refine w_pow (by decide) (by decide) (by decide) ?_)) | fail); decreasing_trivial))
    refine isi_bool hv (fun b e => nomatch e) (fun _ => ?_)
    refine ⟨_, rfl, ?_⟩
    refine ⟨_, rfl, ?_⟩
    rw [if_pos (by simp)]
    (decreasing_trivial; repeat ((first | (with_reducible (refine w_len (by simp; done) ?_)) | (with_reducible (refine w_pow (by decide) (by decide) (by decide) ?_)) | fail); decreasing_trivial))
    refine ite_k (fun h => ?_) (fun h => ?_)
    · (decreasing_trivial; repeat ((first | (with_reducible (refine w_len (by simp; done) ?_)) | (with_reducible (refine w_pow (by decide) (by decide) (by decide) ?_)) | fail); decreasing_trivial))
      exact ⟨rfl, rfl, by rw [isNum_int, h, Bool.true_and]⟩
    · exact ⟨rfl, rfl, by rw [isNum_int, h]; rfl⟩
  · subst e
    refine ⟨_, rfl, ?_⟩
    rw [if_pos rfl]
    (decreasing_trivial; repeat ((first | (with_reducible (refine w_len (by simp; done) ?_)) | (with_reducible (refine w_pow (by decide) (by decide) (by decide) ?_)) | fail); decreasing_trivial))
    refine isi_bool hv (fun b e => ?_) (fun h => absurd rfl (h _))
    refine ⟨_, rfl, ?_⟩
    refine ⟨_, rfl, ?_⟩
    rw [if_neg (by simp)]
    exact ⟨rfl, rfl, rfl⟩
  · refine ⟨_, rfl, ?_⟩
    rw [if_neg (by simp)]
    exact ⟨rfl, rfl, by rw [isNum_not h1]⟩

def OddF (f : Fn) : Prop := ∀ n : Nat, Draws f n [.loc n] 100 (fun v => Fit 500 30 v)
theorem oddF_ok (T : Nat → Fn) (ho : OfOk (T i3_law_of)) : OddF (fnR 4 1 (m8_law_odd T)) := fun n => by
  refine Draws.of rfl fun μ B hb hs => ?_
  simp only [startA_s, List.map_cons, List.map_nil, List.length_cons, List.length_nil, Nat.reduceAdd, Nat.reduceSub, List.replicate_succ, List.replicate_zero, List.cons_append, List.nil_append]
  unfold m8_law_odd
  (decreasing_trivial; repeat ((first | (with_reducible (refine w_len (by simp; done) ?_)) | (with_reducible (refine w_pow (by decide) (by decide) (by decide) ?_)) | fail); decreasing_trivial))
  refine ⟨_, _, rfl, rfl, by simp, ?_⟩
  (decreasing_trivial; repeat ((first | (with_reducible (refine w_len (by simp; done) ?_)) | (with_reducible (refine w_pow (by decide) (by decide) (by decide) ?_)) | fail); decreasing_trivial))
  refine ⟨_, _, rfl, rfl, by simp, ?_⟩
  (decreasing_trivial; repeat ((first | (with_reducible (refine w_len (by simp; done) ?_)) | (with_reducible (refine w_pow (by decide) (by decide) (by decide) ?_)) | fail); decreasing_trivial))
  refine (ho n _ (by simp) (by simp) (by decide) μ B (by omega) hs).mono fun v σ ⟨s1, h1, pv, hv⟩ => ?_
  have f1 : Fit 60 4 v := by
    simp only [List.cons_append, List.nil_append, List.append_assoc, List.mem_cons, List.not_mem_nil, or_false] at hv
    rcases hv with h | h | h | h | h | h | h | h | h | h | h | h | h | h | h | h | h | h | h | h | h | h | h | h | h | h | h | h <;> subst h <;> exact ⟨by decide +kernel, by decide +kernel, by decide +kernel⟩
  clear hv pv
  (decreasing_trivial; repeat ((first | (with_reducible (refine w_len (by simp; done) ?_)) | (with_reducible (refine w_pow (by decide) (by decide) (by decide) ?_)) | fail); decreasing_trivial))
  refine (ho n _ (by simp) (by simp) (by decide) σ _ (by omega) h1).mono fun v2 σ2 ⟨s2, h2, pv, hv⟩ => ?_
  obtain ⟨r, e, r1, r2⟩ : ∃ r : Int, v2 = .int r ∧ 0 ≤ r ∧ r ≤ 18 := by
    simp only [List.mem_cons, List.not_mem_nil, or_false] at hv
    rcases hv with h | h | h | h | h | h <;> exact ⟨_, h, by decide, by decide⟩
  subst e
  clear hv pv
  (decreasing_trivial; repeat ((first | (with_reducible (refine w_len (by simp; done) ?_)) | (with_reducible (refine w_pow (by decide) (by decide) (by decide) ?_)) | fail); decreasing_trivial))
  refine ⟨by omega, by omega, ?_⟩
  have hlen : (rangeL 0 r.toNat).length = r.toNat := by simp [rangeL]
  refine wo_dat (fun i ρ τ => ∃ x1 v x3, ρ = [some (.loc n), x1, some v, x3] ∧ Ext n μ τ ∧ Hst τ n (B + 1 + 1 + i) ∧ Fit (60 + 10 * i) (4 + i) v) ?_ ?_ FUEL 0 _ _ (by unfold FUEL; omega) (by omega) ⟨_, _, _, rfl, s1.ext.step s2, h2, f1⟩
  · rintro ρ τ ⟨x1, v, x3, rfl, xt, h4, ft⟩
    (decreasing_trivial; repeat ((first | (with_reducible (refine w_len (by simp; done) ?_)) | (with_reducible (refine w_pow (by decide) (by decide) (by decide) ?_)) | fail); decreasing_trivial))
    rw [hlen] at ft h4
    exact ⟨ft.pure, xt, h4.le (by omega), ft.mono (by omega) (by omega)⟩
  · rintro i x ρ τ hx ⟨x1, v, x3, rfl, xt, h4, ft⟩
    have hi : i < 18 := by
      have := (List.getElem?_eq_some_iff.mp hx).1
      rw [hlen] at this
      omega
    refine ⟨_, rfl, ?_⟩
    (decreasing_trivial; repeat ((first | (with_reducible (refine w_len (by simp; done) ?_)) | (with_reducible (refine w_pow (by decide) (by decide) (by decide) ?_)) | fail); decreasing_trivial))
    have g1 : Fit (60 + 10 * (i + 1)) (4 + (i + 1)) (.tup [v]) := (FitL.cons ft .nil).tup.mono (by omega) (by omega)
    have g2 : Fit (60 + 10 * (i + 1)) (4 + (i + 1)) (.lst [v]) := (FitL.cons ft .nil).lst.mono (by omega) (by omega)
    have g3 : Fit (60 + 10 * (i + 1)) (4 + (i + 1)) (.dct [(.str "a", v)]) := by
      obtain ⟨a1, a2, a3⟩ := ft
      have ea : sz (.str "a") = 3 := by decide +kernel
      refine ⟨by simp [sh, shD, a1], by simp only [sz, szD] at ea ⊢; omega, by simp only [dep, depD]; omega⟩
    refine (ho n _ (by simp) (by simp) (by simp [pureL, pureD, pure?, ft.pure]) τ _ (by omega) h4).mono fun v2 σ2 ⟨s2, h2, pv, hv⟩ => ?_
    refine ⟨_, v2, _, rfl, xt.step s2, h2.le (by omega), ?_⟩
    simp only [List.mem_cons, List.not_mem_nil, or_false] at hv
    rcases hv with h | h | h <;> subst h
    · exact g1
    · exact g2
    · exact g3
end Lr

namespace Lr
open PySem PySem.Spec L2
theorem o_aug {i : Nat} {g : G2} {r : AE} {ρ : Loc} {μ : Store} {D : Kt} {v : AV} (e : ρ[i]? = some (some v)) (h : wp (r ρ μ) fun x μ1 => wp (g v x μ1) fun y μ2 => D.nx (ρ.set i (some y)) μ2) : wo (sAug i g r ρ μ) D := by
  unfold sAug
  rw [e]
  dsimp only
  rw [wo_out]
  refine h.mono fun x μ1 h => ?_
  rw [wo_out]
  exact h
mutual

def Tr.cut : Tr → Int → Tr
  | .seq ps, n => .seq (Tr.cuts ps n)
  | .branch ps, n => .branch (Tr.cuts ps n)
  | .loop p, n => .loop (p.cut n)
  | .new x, n => if n = 0 then .seq [] else .new x
  | .use x, n => if n = 0 then .seq [] else .use x
  | .drop x, n => if n = 0 then .seq [] else .drop x
  | .copy x y, n => if n = 0 then .seq [] else .copy x y
def Tr.cuts : List Tr → Int → List Tr
  | [], _ => []
  | p :: ps, n => p.cut n :: Tr.cuts ps (n - p.ins.length)
end
theorem Tr.cut_leaf {t : Tr} (h : t.leaf = true) (n : Int) : t.cut n = if n = 0 then .seq [] else t := by cases t <;> first | rfl | cases h
mutual
theorem Tr.cut_out : ∀ (t : Tr) (n : Int), (n < 0 ∨ (t.ins.length : Int) ≤ n) → t.cut n = t
  | .new x, n, h => by simp only [Tr.ins, List.length_singleton] at h; unfold Tr.cut; rw [if_neg (by omega)]
  | .use x, n, h => by simp only [Tr.ins, List.length_singleton] at h; unfold Tr.cut; rw [if_neg (by omega)]
  | .drop x, n, h => by simp only [Tr.ins, List.length_singleton] at h; unfold Tr.cut; rw [if_neg (by omega)]
  | .copy x y, n, h => by simp only [Tr.ins, List.length_singleton] at h; unfold Tr.cut; rw [if_neg (by omega)]
  | .seq ps, n, h => by unfold Tr.cut; rw [Tr.cuts_out ps n (by simpa only [Tr.ins] using h)]
  | .branch ps, n, h => by unfold Tr.cut; rw [Tr.cuts_out ps n (by simpa only [Tr.ins] using h)]
  | .loop p, n, h => by unfold Tr.cut; rw [Tr.cut_out p n (by simpa only [Tr.ins] using h)]
theorem Tr.cuts_out : ∀ (ps : List Tr) (n : Int), (n < 0 ∨ ((Tr.insL ps).length : Int) ≤ n) → Tr.cuts ps n = ps
  | [], n, h => rfl
  | p :: ps, n, h => by
    simp only [Tr.insL, List.length_append] at h
    unfold Tr.cuts
    rw [Tr.cut_out p n (by omega), Tr.cuts_out ps (n - p.ins.length) (by omega)]
end
theorem Tr.cuts_len : ∀ (ps : List Tr) (n : Int), (Tr.cuts ps n).length = ps.length
  | [], _ => rfl
  | p :: ps, n => by unfold Tr.cuts; rw [List.length_cons, List.length_cons, Tr.cuts_len ps]
theorem Tr.cuts_take {i : Nat} {p : Tr} : ∀ {ps : List Tr} {n : Int}, ps[i]? = some p → (Tr.cuts ps n).take (i + 1) = (Tr.cuts ps n).take i ++ [p.cut (n - (Tr.insL (ps.take i)).length)] := by
  induction i with
  | zero =>
    intro ps n h
    cases ps with
    | nil => cases h
    | cons q ps => cases h; simp [Tr.cuts, Tr.insL]
  | succ i ih =>
    intro ps n h
    cases ps with
    | nil => cases h
    | cons q ps =>
      have h2 : ps[i]? = some p := by simpa using h
      unfold Tr.cuts
      rw [List.take_succ_cons, List.take_succ_cons, ih (n := n - q.ins.length) h2]
      simp only [List.take_succ_cons, Tr.insL, List.length_append, List.cons_append]
      have e : n - ↑q.ins.length - ↑(Tr.insL (List.take i ps)).length = n - ((q.ins.length + (Tr.insL (List.take i ps)).length : Nat) : Int) := by omega
      rw [e]
theorem take_vs (ps : List Tr) (n : Int) (i : Nat) : (Tr.vs (Tr.cuts ps n)).take i = Tr.vs ((Tr.cuts ps n).take i) := by rw [Tr.vs_map, Tr.vs_map, List.map_take]
def CutOk (f : Fn) (d : Nat) : Prop := ∀ (N : List Str) (t : Tr) (n : Int), t.ok N → t.dep ≤ d → t.ins.length ≤ 100000 → Pure1 f [t.v, .int n] (t.cut n).v
theorem cut_ok (T : Nat → Fn) (hi : InstrsOk (T i20_instructions) 9) (d : Nat) (hd9 : d + 1 ≤ 9) (ih : CutOk (T i30_cut_from) d) : CutOk (fnR 5 2 (m30_cut_from T)) (d + 1) := fun N t n k hd hz => Pure1.of' rfl fun μ => by
  obtain ⟨a, r, e, hl, hc⟩ := Tr.v_head t
  have pv := Tr.vpure t
  simp only [startA_s, List.map_cons, List.map_nil, List.length_cons, List.length_nil, Nat.reduceAdd, Nat.reduceSub, List.replicate_succ, List.replicate_zero, List.cons_append, List.nil_append]
  unfold m30_cut_from
  (decreasing_trivial; repeat ((first | (with_reducible (refine w_len (by simp; done) ?_)) | (with_reducible (refine w_pow (by decide) (by decide) (by decide) ?_)) | fail); decreasing_trivial))
  refine (hi N t k (by omega) hz μ).mono fun v σ ⟨e1, e2⟩ => ?_
  subst e1 e2
  (decreasing_trivial; repeat ((first | (with_reducible (refine w_len (by simp; done) ?_)) | (with_reducible (refine w_pow (by decide) (by decide) (by decide) ?_)) | fail); decreasing_trivial))
  rw [Tr.vs_len]
  refine ite_k (fun h0 => ?_) (fun h0 => ?_)
  rotate_left
  · have h0 := of_decide_eq_false h0
    refine ⟨_, rfl, ?_⟩
    rw [if_pos (by simp)]
    (decreasing_trivial; repeat ((first | (with_reducible (refine w_len (by simp; done) ?_)) | (with_reducible (refine w_pow (by decide) (by decide) (by decide) ?_)) | fail); decreasing_trivial))
    rw [Tr.cut_out t n (by omega)]
    exact ⟨List.prefix_refl _, pv, rfl⟩
  have h0 := of_decide_eq_true h0
  (decreasing_trivial; repeat ((first | (with_reducible (refine w_len (by simp; done) ?_)) | (with_reducible (refine w_pow (by decide) (by decide) (by decide) ?_)) | fail); decreasing_trivial))
  refine ite_k (fun h1 => ?_) (fun h1 => ?_)
  · simp only [Bool.not_eq_true', decide_eq_false_iff_not] at h1
    (decreasing_trivial; repeat ((first | (with_reducible (refine w_len (by simp; done) ?_)) | (with_reducible (refine w_pow (by decide) (by decide) (by decide) ?_)) | fail); decreasing_trivial))
    rw [Tr.cut_out t n (by omega)]
    exact ⟨List.prefix_refl _, pv, rfl⟩
  simp only [Bool.not_eq_false', decide_eq_true_eq] at h1
  refine o_nil ?_
  cases ht : t.leaf with
  | true =>
    rw [e]
    (decreasing_trivial; repeat ((first | (with_reducible (refine w_len (by simp; done) ?_)) | (with_reducible (refine w_pow (by decide) (by decide) (by decide) ?_)) | fail); decreasing_trivial))
    refine w_ixT atI_0 ?_
    (decreasing_trivial; repeat ((first | (with_reducible (refine w_len (by simp; done) ?_)) | (with_reducible (refine w_pow (by decide) (by decide) (by decide) ?_)) | fail); decreasing_trivial))
    refine gNotIn_3 (hl ht) ?_
    (decreasing_trivial; repeat ((first | (with_reducible (refine w_len (by simp; done) ?_)) | (with_reducible (refine w_pow (by decide) (by decide) (by decide) ?_)) | fail); decreasing_trivial))
    rw [if_pos (by simp)]
    (decreasing_trivial; repeat ((first | (with_reducible (refine w_len (by simp; done) ?_)) | (with_reducible (refine w_pow (by decide) (by decide) (by decide) ?_)) | fail); decreasing_trivial))
    have h2 : t.ins.length = 1 := by rw [leaf_ins ht]; rfl
    rw [Tr.cut_leaf ht, if_pos (by omega)]
    exact ⟨List.prefix_refl _, rfl, rfl⟩
  | false =>
    have many : ∀ a (ps : List Tr), (a == ("loop" : Str)) = false → (("seq" : Str) == a || (("branch" : Str) == a || ("loop" : Str) == a)) = true → ps.length ≤ 20 → Tr.oks N ps → Tr.deps ps ≤ d → (Tr.insL ps).length ≤ 100000 →
        wo (sSeq (sIf (tB1 (eOp gNotIn (eOp gIx (eVar 0) (eC (.int 0))) (eTup (aCons (eC (.str "seq")) (aCons (eC (.str "branch")) (aCons (eC (.str "loop")) aNil)))))) (sRet (eC (.tup [(.str "seq"), (.tup [])]))) sNil) (sSeq (sIf (tB1 (eOp gEq (eOp gIx (eVar 0) (eC (.int 0))) (eC (.str "loop")))) (sRet (eTup (aCons (eC (.str "loop")) (aCons (eCall (T i30_cut_from) (aCons (eOp gIx (eVar 0) (eC (.int 1))) (aCons (eVar 1) aNil))) aNil)))) sNil) (sSeq (sSet 3 (eNew (aLst aNil))) (sSeq (sFor (iAny (eOp gIx (eVar 0) (eC (.int 1)))) (gNm 4) (sSeq (sExpr (eApp2 (eVar 3) (eCall (T i30_cut_from) (aCons (eVar 4) (aCons (eVar 1) aNil))))) (sAug 1 gISub (eCB gLen (aCons (eCall (T i20_instructions) (aCons (eVar 4) aNil)) aNil))))) (sRet (eTup (aCons (eOp gIx (eVar 0) (eC (.int 0))) (aCons (eCB gTuple (aCons (eVar 3) aNil)) aNil))))))) [some (.tup [.str a, .tup (Tr.vs ps)]), some (.int n), some (.int (Tr.insL ps).length), none, none] σ)
          { rt := fun v σ' => σ <+: σ' ∧ pure? v = true ∧ v = .tup [.str a, .tup (Tr.vs (Tr.cuts ps n))] } := fun a ps q1 q2 q3 q4 q5 q6 => by
      (decreasing_trivial; repeat ((first | (with_reducible (refine w_len (by simp; done) ?_)) | (with_reducible (refine w_pow (by decide) (by decide) (by decide) ?_)) | fail); decreasing_trivial))
      refine w_ixT atI_0 ?_
      (decreasing_trivial; repeat ((first | (with_reducible (refine w_len (by simp; done) ?_)) | (with_reducible (refine w_pow (by decide) (by decide) (by decide) ?_)) | fail); decreasing_trivial))
      refine gNotIn_3 q2 ?_
      (decreasing_trivial; repeat ((first | (with_reducible (refine w_len (by simp; done) ?_)) | (with_reducible (refine w_pow (by decide) (by decide) (by decide) ?_)) | fail); decreasing_trivial))
      rw [if_neg (by simp)]
      (decreasing_trivial; repeat ((first | (with_reducible (refine w_len (by simp; done) ?_)) | (with_reducible (refine w_pow (by decide) (by decide) (by decide) ?_)) | fail); decreasing_trivial))
      refine w_ixT atI_0 ?_
      (decreasing_trivial; repeat ((first | (with_reducible (refine w_len (by simp; done) ?_)) | (with_reducible (refine w_pow (by decide) (by decide) (by decide) ?_)) | fail); decreasing_trivial))
      refine gEq_s q1 ?_
      (decreasing_trivial; repeat ((first | (with_reducible (refine w_len (by simp; done) ?_)) | (with_reducible (refine w_pow (by decide) (by decide) (by decide) ?_)) | fail); decreasing_trivial))
      rw [if_neg (by simp)]
      (decreasing_trivial; repeat ((first | (with_reducible (refine w_len (by simp; done) ?_)) | (with_reducible (refine w_pow (by decide) (by decide) (by decide) ?_)) | fail); decreasing_trivial))
      refine w_anyT ?_
      refine w_op ?_
      (decreasing_trivial; repeat ((first | (with_reducible (refine w_len (by simp; done) ?_)) | (with_reducible (refine w_pow (by decide) (by decide) (by decide) ?_)) | fail); decreasing_trivial))
      refine w_ixT rfl ?_
      refine ⟨_, rfl, ?_⟩
      refine wo_dat (fun i ρ τ => ∃ x4, ρ = [some (.tup [.str a, .tup (Tr.vs ps)]), some (.int (n - (Tr.insL (ps.take i)).length)), some (.int (Tr.insL ps).length), some (.loc σ.length), x4] ∧ σ <+: τ ∧ τ[σ.length]? = some (.lst (Tr.vs ((Tr.cuts ps n).take i)))) ?_ ?_ FUEL 0 _ _ (by rw [Tr.vs_len]; unfold FUEL; omega) (by omega) ⟨none, by simp [Tr.insL], List.prefix_append _ _, push_get⟩
      · rintro ρ τ ⟨x4, rfl, pre, e3⟩
        rw [Tr.vs_len, ← Tr.cuts_len ps n, List.take_length] at e3
        (decreasing_trivial; repeat ((first | (with_reducible (refine w_len (by simp; done) ?_)) | (with_reducible (refine w_pow (by decide) (by decide) (by decide) ?_)) | fail); decreasing_trivial))
        refine w_ixT atI_0 ?_
        (decreasing_trivial; repeat ((first | (with_reducible (refine w_len (by simp; done) ?_)) | (with_reducible (refine w_pow (by decide) (by decide) (by decide) ?_)) | fail); decreasing_trivial))
        refine w_tupO e3 ?_
        (decreasing_trivial; repeat ((first | (with_reducible (refine w_len (by simp; done) ?_)) | (with_reducible (refine w_pow (by decide) (by decide) (by decide) ?_)) | fail); decreasing_trivial))
        have pv := Tr.vpures (Tr.cuts ps n)
        exact ⟨pre, by simp [pure?, pureL, pv], rfl⟩
      · rintro i v ρ τ hv ⟨x4, rfl, pre, e3⟩
        rw [Tr.vs_map, List.getElem?_map] at hv
        obtain ⟨p, hpi, rfl⟩ := Option.map_eq_some_iff.mp hv
        have hm := List.mem_of_getElem? hpi
        have hz1 := insL_take_le ps (i + 1)
        rw [insL_take hpi, List.length_append] at hz1
        refine ⟨_, rfl, ?_⟩
        (decreasing_trivial; repeat ((first | (with_reducible (refine w_len (by simp; done) ?_)) | (with_reducible (refine w_pow (by decide) (by decide) (by decide) ?_)) | fail); decreasing_trivial))
        refine ⟨by unfold isLs; rw [lsOf_o e3]; rfl, ?_⟩
        (decreasing_trivial; repeat ((first | (with_reducible (refine w_len (by simp; done) ?_)) | (with_reducible (refine w_pow (by decide) (by decide) (by decide) ?_)) | fail); decreasing_trivial))
        refine (ih N p _ (Tr.oks_iff.mp q4 p hm) (Tr.deps_iff.mp q5 p hm) (by omega) τ).mono fun v σ1 ⟨e1, e2⟩ => ?_
        subst e1 e2
        have hil := (List.getElem?_eq_some_iff.mp hpi).1
        refine ⟨σ.length, _, rfl, e3, by rw [Tr.vs_len, List.length_take, Tr.cuts_len]; omega, ?_⟩
        refine o_aug rfl ?_
        (decreasing_trivial; repeat ((first | (with_reducible (refine w_len (by simp; done) ?_)) | (with_reducible (refine w_pow (by decide) (by decide) (by decide) ?_)) | fail); decreasing_trivial))
        refine (hi N p (Tr.oks_iff.mp q4 p hm) (by have := Tr.deps_iff.mp q5 p hm; omega) (by omega) _).mono fun v σ2 ⟨e1, e2⟩ => ?_
        subst e1 e2
        (decreasing_trivial; repeat ((first | (with_reducible (refine w_len (by simp; done) ?_)) | (with_reducible (refine w_pow (by decide) (by decide) (by decide) ?_)) | fail); decreasing_trivial))
        refine ⟨some p.v, ?_, pre_set pre (Nat.le_refl _), ?_⟩
        · rw [insL_take hpi, List.length_append, Tr.vs_len]
          have e4 : n - ↑(Tr.insL (List.take i ps)).length - ↑p.ins.length = n - ((Tr.insL (List.take i ps)).length + p.ins.length : Nat) := by omega
          rw [← e4]
          rfl
        · rw [List.getElem?_set_self (List.getElem?_eq_some_iff.mp e3).1, Tr.cuts_take hpi, Tr.vs_app]
          rfl
    cases t with
    | new x => cases ht
    | use x => cases ht
    | drop x => cases ht
    | copy x y => cases ht
    | seq ps => exact many "seq" ps (by decide) (by decide) k.1 k.2 (by simp only [Tr.dep] at hd; omega) hz
    | branch ps => exact many "branch" ps (by decide) (by decide) (by have := k.1.2; omega) k.2 (by simp only [Tr.dep] at hd; omega) hz
    | loop p =>
      simp only [Tr.v]
      (decreasing_trivial; repeat ((first | (with_reducible (refine w_len (by simp; done) ?_)) | (with_reducible (refine w_pow (by decide) (by decide) (by decide) ?_)) | fail); decreasing_trivial))
      refine w_ixT atI_0 ?_
      (decreasing_trivial; repeat ((first | (with_reducible (refine w_len (by simp; done) ?_)) | (with_reducible (refine w_pow (by decide) (by decide) (by decide) ?_)) | fail); decreasing_trivial))
      refine gNotIn_3 (r := true) (by decide) ?_
      (decreasing_trivial; repeat ((first | (with_reducible (refine w_len (by simp; done) ?_)) | (with_reducible (refine w_pow (by decide) (by decide) (by decide) ?_)) | fail); decreasing_trivial))
      rw [if_neg (by simp)]
      (decreasing_trivial; repeat ((first | (with_reducible (refine w_len (by simp; done) ?_)) | (with_reducible (refine w_pow (by decide) (by decide) (by decide) ?_)) | fail); decreasing_trivial))
      refine w_ixT rfl ?_
      (decreasing_trivial; repeat ((first | (with_reducible (refine w_len (by simp; done) ?_)) | (with_reducible (refine w_pow (by decide) (by decide) (by decide) ?_)) | fail); decreasing_trivial))
      refine gEq_s (b := true) (by decide) ?_
      (decreasing_trivial; repeat ((first | (with_reducible (refine w_len (by simp; done) ?_)) | (with_reducible (refine w_pow (by decide) (by decide) (by decide) ?_)) | fail); decreasing_trivial))
      rw [if_pos rfl]
      (decreasing_trivial; repeat ((first | (with_reducible (refine w_len (by simp; done) ?_)) | (with_reducible (refine w_pow (by decide) (by decide) (by decide) ?_)) | fail); decreasing_trivial))
      refine w_ixT rfl ?_
      (decreasing_trivial; repeat ((first | (with_reducible (refine w_len (by simp; done) ?_)) | (with_reducible (refine w_pow (by decide) (by decide) (by decide) ?_)) | fail); decreasing_trivial))
      refine (ih N p n k (by simp only [Tr.dep] at hd; omega) hz σ).mono fun v σ1 ⟨e1, e2⟩ => ?_
      subst e1 e2
      (decreasing_trivial; repeat ((first | (with_reducible (refine w_len (by simp; done) ?_)) | (with_reducible (refine w_pow (by decide) (by decide) (by decide) ?_)) | fail); decreasing_trivial))
      have pv := Tr.vpure (p.cut n)
      exact ⟨List.prefix_refl _, by simp [pure?, pureL, pv], rfl⟩
def LCutOk (f : Fn) (d : Nat) : Prop := ∀ (N : List Str) (t : Tr) (n : Int), t.ok N → t.dep ≤ d → t.ins.length ≤ 100000 → Pure1 f [t.v, .int n] (.tup [(t.cut n).v, .int t.ins.length])
theorem lcut_ok (T : Nat → Fn) (d : Nat) (ih : LCutOk (T i31_law_cut) d) : LCutOk (fnR 8 2 (m31_law_cut T)) (d + 1) := fun N t n k hd hz => Pure1.of' rfl fun μ => by
  have leaf : ∀ (t : Tr) a r, t.v = .tup (.str a :: r) → t.leaf = true → (a == ("loop" : Str)) = false → (("seq" : Str) == a || ("branch" : Str) == a) = false → wo (m31_law_cut T [some t.v, some (.int n), none, none, none, none, none, none] μ) { rt := fun v σ => μ <+: σ ∧ pure? v = true ∧ v = .tup [(t.cut n).v, .int t.ins.length] } := fun t a r e ht h1 h2 => by
    have pv := Tr.vpure t
    rw [leaf_ins ht, Tr.cut_leaf ht]
    unfold m31_law_cut
    rw [e]
    (decreasing_trivial; repeat ((first | (with_reducible (refine w_len (by simp; done) ?_)) | (with_reducible (refine w_pow (by decide) (by decide) (by decide) ?_)) | fail); decreasing_trivial))
    refine w_ixT atI_0 ?_
    (decreasing_trivial; repeat ((first | (with_reducible (refine w_len (by simp; done) ?_)) | (with_reducible (refine w_pow (by decide) (by decide) (by decide) ?_)) | fail); decreasing_trivial))
    refine gEq_s h1 ?_
    (decreasing_trivial; repeat ((first | (with_reducible (refine w_len (by simp; done) ?_)) | (with_reducible (refine w_pow (by decide) (by decide) (by decide) ?_)) | fail); decreasing_trivial))
    rw [if_neg (by simp)]
    (decreasing_trivial; repeat ((first | (with_reducible (refine w_len (by simp; done) ?_)) | (with_reducible (refine w_pow (by decide) (by decide) (by decide) ?_)) | fail); decreasing_trivial))
    refine w_ixT atI_0 ?_
    (decreasing_trivial; repeat ((first | (with_reducible (refine w_len (by simp; done) ?_)) | (with_reducible (refine w_pow (by decide) (by decide) (by decide) ?_)) | fail); decreasing_trivial))
    refine gNotIn_2 h2 ?_
    (decreasing_trivial; repeat ((first | (with_reducible (refine w_len (by simp; done) ?_)) | (with_reducible (refine w_pow (by decide) (by decide) (by decide) ?_)) | fail); decreasing_trivial))
    rw [if_pos (by simp)]
    (decreasing_trivial; repeat ((first | (with_reducible (refine w_len (by simp; done) ?_)) | (with_reducible (refine w_pow (by decide) (by decide) (by decide) ?_)) | fail); decreasing_trivial))
    refine gEq_i ?_
    refine ⟨_, rfl, ?_⟩
    by_cases h0 : n = 0
    · subst h0
      (decreasing_trivial; repeat ((first | (with_reducible (refine w_len (by simp; done) ?_)) | (with_reducible (refine w_pow (by decide) (by decide) (by decide) ?_)) | fail); decreasing_trivial))
      rw [if_pos (by simp)]
      (decreasing_trivial; repeat ((first | (with_reducible (refine w_len (by simp; done) ?_)) | (with_reducible (refine w_pow (by decide) (by decide) (by decide) ?_)) | fail); decreasing_trivial))
      exact ⟨List.prefix_refl _, rfl, rfl⟩
    · rw [if_neg (by simpa using h0), if_neg h0]
      (decreasing_trivial; repeat ((first | (with_reducible (refine w_len (by simp; done) ?_)) | (with_reducible (refine w_pow (by decide) (by decide) (by decide) ?_)) | fail); decreasing_trivial))
      rw [← e]
      exact ⟨List.prefix_refl _, by simp [pure?, pureL, pv], rfl⟩
  have many : ∀ a (ps : List Tr), (a == ("loop" : Str)) = false → (("seq" : Str) == a || ("branch" : Str) == a) = true → ps.length ≤ 20 → Tr.oks N ps → Tr.deps ps ≤ d → (Tr.insL ps).length ≤ 100000 → wo (m31_law_cut T [some (.tup [.str a, .tup (Tr.vs ps)]), some (.int n), none, none, none, none, none, none] μ) { rt := fun v σ => μ <+: σ ∧ pure? v = true ∧ v = .tup [.tup [.str a, .tup (Tr.vs (Tr.cuts ps n))], .int (Tr.insL ps).length] } := fun a ps h1 h2 hl hk hdp hz => by
    unfold m31_law_cut
    (decreasing_trivial; repeat ((first | (with_reducible (refine w_len (by simp; done) ?_)) | (with_reducible (refine w_pow (by decide) (by decide) (by decide) ?_)) | fail); decreasing_trivial))
    refine w_ixT rfl ?_
    (decreasing_trivial; repeat ((first | (with_reducible (refine w_len (by simp; done) ?_)) | (with_reducible (refine w_pow (by decide) (by decide) (by decide) ?_)) | fail); decreasing_trivial))
    refine gEq_s h1 ?_
    (decreasing_trivial; repeat ((first | (with_reducible (refine w_len (by simp; done) ?_)) | (with_reducible (refine w_pow (by decide) (by decide) (by decide) ?_)) | fail); decreasing_trivial))
    rw [if_neg (by simp)]
    (decreasing_trivial; repeat ((first | (with_reducible (refine w_len (by simp; done) ?_)) | (with_reducible (refine w_pow (by decide) (by decide) (by decide) ?_)) | fail); decreasing_trivial))
    refine w_ixT rfl ?_
    (decreasing_trivial; repeat ((first | (with_reducible (refine w_len (by simp; done) ?_)) | (with_reducible (refine w_pow (by decide) (by decide) (by decide) ?_)) | fail); decreasing_trivial))
    refine gNotIn_2 h2 ?_
    (decreasing_trivial; repeat ((first | (with_reducible (refine w_len (by simp; done) ?_)) | (with_reducible (refine w_pow (by decide) (by decide) (by decide) ?_)) | fail); decreasing_trivial))
    rw [if_neg (by simp)]
    (decreasing_trivial; repeat ((first | (with_reducible (refine w_len (by simp; done) ?_)) | (with_reducible (refine w_pow (by decide) (by decide) (by decide) ?_)) | fail); decreasing_trivial))
    refine w_anyT ?_
    refine w_op ?_
    (decreasing_trivial; repeat ((first | (with_reducible (refine w_len (by simp; done) ?_)) | (with_reducible (refine w_pow (by decide) (by decide) (by decide) ?_)) | fail); decreasing_trivial))
    refine w_ixT rfl ?_
    refine ⟨_, rfl, ?_⟩
    refine wo_dat (fun i ρ τ => ∃ x2 x5 x6 x7, ρ = [some (.tup [.str a, .tup (Tr.vs ps)]), some (.int n), x2, some (.int (Tr.insL (ps.take i)).length), some (.loc μ.length), x5, x6, x7] ∧ μ <+: τ ∧ τ[μ.length]? = some (.lst (Tr.vs ((Tr.cuts ps n).take i)))) ?_ ?_ FUEL 0 _ _ (by rw [Tr.vs_len]; unfold FUEL; omega) (by omega) ⟨_, _, _, _, rfl, List.prefix_append _ _, push_get⟩
    · rintro ρ τ ⟨x2, x5, x6, x7, rfl, pre, e3⟩
      rw [Tr.vs_len, ← Tr.cuts_len ps n, List.take_length] at e3
      (decreasing_trivial; repeat ((first | (with_reducible (refine w_len (by simp; done) ?_)) | (with_reducible (refine w_pow (by decide) (by decide) (by decide) ?_)) | fail); decreasing_trivial))
      refine w_ixT atI_0 ?_
      (decreasing_trivial; repeat ((first | (with_reducible (refine w_len (by simp; done) ?_)) | (with_reducible (refine w_pow (by decide) (by decide) (by decide) ?_)) | fail); decreasing_trivial))
      refine w_tupO e3 ?_
      (decreasing_trivial; repeat ((first | (with_reducible (refine w_len (by simp; done) ?_)) | (with_reducible (refine w_pow (by decide) (by decide) (by decide) ?_)) | fail); decreasing_trivial))
      have pv := Tr.vpures (Tr.cuts ps n)
      refine ⟨pre, by simp [pure?, pureL, pv], ?_⟩
      rw [Tr.vs_len, List.take_length]
    · rintro i v ρ τ hv ⟨x2, x5, x6, x7, rfl, pre, e3⟩
      rw [Tr.vs_map, List.getElem?_map] at hv
      obtain ⟨p, hpi, rfl⟩ := Option.map_eq_some_iff.mp hv
      have hm := List.mem_of_getElem? hpi
      have hz1 := insL_take_le ps (i + 1)
      rw [insL_take hpi, List.length_append] at hz1
      refine ⟨_, rfl, ?_⟩
      (decreasing_trivial; repeat ((first | (with_reducible (refine w_len (by simp; done) ?_)) | (with_reducible (refine w_pow (by decide) (by decide) (by decide) ?_)) | fail); decreasing_trivial))
      refine (ih N p _ (Tr.oks_iff.mp hk p hm) (Tr.deps_iff.mp hdp p hm) (by omega) τ).mono fun v σ1 ⟨e1, e2⟩ => ?_
      subst e1 e2
      have hil := (List.getElem?_eq_some_iff.mp hpi).1
      (decreasing_trivial; repeat ((first | (with_reducible (refine w_len (by simp; done) ?_)) | (with_reducible (refine w_pow (by decide) (by decide) (by decide) ?_)) | fail); decreasing_trivial))
      refine ⟨by unfold isLs; rw [lsOf_o e3]; rfl, ?_⟩
      (decreasing_trivial; repeat ((first | (with_reducible (refine w_len (by simp; done) ?_)) | (with_reducible (refine w_pow (by decide) (by decide) (by decide) ?_)) | fail); decreasing_trivial))
      refine ⟨μ.length, _, rfl, e3, by rw [Tr.vs_len, List.length_take, Tr.cuts_len]; omega, ?_⟩
      (decreasing_trivial; repeat ((first | (with_reducible (refine w_len (by simp; done) ?_)) | (with_reducible (refine w_pow (by decide) (by decide) (by decide) ?_)) | fail); decreasing_trivial))
      refine ⟨x2, some p.v, some (p.cut (n - ↑(Tr.insL (List.take i ps)).length)).v, some (.int p.ins.length), ?_, pre_set pre (Nat.le_refl _), ?_⟩
      · rw [insL_take hpi, List.length_append]
        rfl
      · rw [List.getElem?_set_self (List.getElem?_eq_some_iff.mp e3).1, Tr.cuts_take hpi, Tr.vs_app]
        rfl
  simp only [startA_s, List.map_cons, List.map_nil, List.length_cons, List.length_nil, Nat.reduceAdd, Nat.reduceSub, List.replicate_succ, List.replicate_zero, List.cons_append, List.nil_append]
  cases t with
  | new x => exact leaf (.new x) _ _ rfl rfl (by decide) (by decide)
  | use x => exact leaf (.use x) _ _ rfl rfl (by decide) (by decide)
  | drop x => exact leaf (.drop x) _ _ rfl rfl (by decide) (by decide)
  | copy x y => exact leaf (.copy x y) _ _ rfl rfl (by decide) (by decide)
  | seq ps => exact many _ ps (by decide) (by decide) k.1 k.2 (by simp only [Tr.dep] at hd; omega) hz
  | branch ps => exact many _ ps (by decide) (by decide) (by have := k.1.2; omega) k.2 (by simp only [Tr.dep] at hd; omega) hz
  | loop p =>
    unfold m31_law_cut
    simp only [Tr.v]
    (decreasing_trivial; repeat ((first | (with_reducible (refine w_len (by simp; done) ?_)) | (with_reducible (refine w_pow (by decide) (by decide) (by decide) ?_)) | fail); decreasing_trivial))
    refine w_ixT rfl ?_
    (decreasing_trivial; repeat ((first | (with_reducible (refine w_len (by simp; done) ?_)) | (with_reducible (refine w_pow (by decide) (by decide) (by decide) ?_)) | fail); decreasing_trivial))
    refine gEq_s (b := true) (by decide) ?_
    (decreasing_trivial; repeat ((first | (with_reducible (refine w_len (by simp; done) ?_)) | (with_reducible (refine w_pow (by decide) (by decide) (by decide) ?_)) | fail); decreasing_trivial))
    rw [if_pos rfl]
    (decreasing_trivial; repeat ((first | (with_reducible (refine w_len (by simp; done) ?_)) | (with_reducible (refine w_pow (by decide) (by decide) (by decide) ?_)) | fail); decreasing_trivial))
    refine w_ixT rfl ?_
    (decreasing_trivial; repeat ((first | (with_reducible (refine w_len (by simp; done) ?_)) | (with_reducible (refine w_pow (by decide) (by decide) (by decide) ?_)) | fail); decreasing_trivial))
    refine (ih N p n k (by simp only [Tr.dep] at hd; omega) hz μ).mono fun v σ ⟨e1, e2⟩ => ?_
    subst e1 e2
    (decreasing_trivial; repeat ((first | (with_reducible (refine w_len (by simp; done) ?_)) | (with_reducible (refine w_pow (by decide) (by decide) (by decide) ?_)) | fail); decreasing_trivial))
    have pv := Tr.vpure (p.cut n)
    exact ⟨List.prefix_refl _, by simp [pure?, pureL, pv], rfl⟩
def numOf : AV → Int
  | .int i => i
  | _ => 0
def LeftOk (f : Fn) : Prop := ∀ (t : Tr) (v : AV), t.ok NM → t.dep ≤ 9 → t.ins.length ≤ 100000 → sh v = true → PureX f [t.v, v] (if isNum t.ins.length v = true then .ok (t.cut (numOf v)).v else .ex 1 (some v))
theorem left_ok (T : Nat → Fn) (hc : CheckOk (T i29_check_number)) (hf : CutOk (T i30_cut_from) 9) : LeftOk (fnR 2 2 (m41_left_out T)) := fun t v k hd hz hv => PureX.of rfl fun μ => by
  simp only [startA_s, List.map_cons, List.map_nil, List.length_cons, List.length_nil, Nat.reduceAdd, Nat.reduceSub, List.replicate_succ, List.replicate_zero, List.cons_append, List.nil_append]
  unfold m41_left_out
  refine x_seq (x_expr (x_call ?_))
  (decreasing_trivial; repeat ((first | (with_reducible (refine w_len (by simp; done) ?_)) | (with_reducible (refine w_pow (by decide) (by decide) (by decide) ?_)) | fail); decreasing_trivial))
  refine (hc t v k hd hz hv).wpX (fun u e => ?_) (fun c p e => ?_)
  · by_cases h : isNum t.ins.length v = true
    · cases v <;> first | (cases h; done) | skip
      rename_i i
      refine x_ret (x_call ?_)
      (decreasing_trivial; repeat ((first | (with_reducible (refine w_len (by simp; done) ?_)) | (with_reducible (refine w_pow (by decide) (by decide) (by decide) ?_)) | fail); decreasing_trivial))
      refine wp.toX ?_
      refine (hf NM t i k hd hz μ).mono fun u σ ⟨e1, e2⟩ => ?_
      subst e1 e2
      exact ⟨List.prefix_refl _, Tr.vpure _, by rw [if_pos h]; rfl⟩
    · rw [if_neg h] at e
      cases e
  · by_cases h : isNum t.ins.length v = true
    · rw [if_pos h] at e
      cases e
    · rw [if_neg h] at e
      cases e
      exact ⟨rfl, if_neg h⟩
mutual
theorem Tr.cut_ok {N : List Str} : ∀ (t : Tr) (n : Int), t.ok N → (t.cut n).ok N
  | .new x, n, k => by unfold Tr.cut; split; exact ⟨by decide, trivial⟩; exact k
  | .use x, n, k => by unfold Tr.cut; split; exact ⟨by decide, trivial⟩; exact k
  | .drop x, n, k => by unfold Tr.cut; split; exact ⟨by decide, trivial⟩; exact k
  | .copy x y, n, k => by unfold Tr.cut; split; exact ⟨by decide, trivial⟩; exact k
  | .seq ps, n, k => ⟨by rw [Tr.cuts_len]; exact k.1, Tr.cuts_ok ps n k.2⟩
  | .branch ps, n, k => ⟨by rw [Tr.cuts_len]; exact k.1, Tr.cuts_ok ps n k.2⟩
  | .loop p, n, k => Tr.cut_ok p n k
theorem Tr.cuts_ok {N : List Str} : ∀ (ps : List Tr) (n : Int), Tr.oks N ps → Tr.oks N (Tr.cuts ps n)
  | [], _, _ => trivial
  | p :: ps, n, k => ⟨Tr.cut_ok p n k.1, Tr.cuts_ok ps _ k.2⟩
end
mutual
theorem Tr.cut_dep : ∀ (t : Tr) (n : Int), (t.cut n).dep ≤ t.dep
  | .new x, n => by unfold Tr.cut; split <;> simp [Tr.dep, Tr.deps]
  | .use x, n => by unfold Tr.cut; split <;> simp [Tr.dep, Tr.deps]
  | .drop x, n => by unfold Tr.cut; split <;> simp [Tr.dep, Tr.deps]
  | .copy x y, n => by unfold Tr.cut; split <;> simp [Tr.dep, Tr.deps]
  | .seq ps, n => by have := Tr.cuts_dep ps n; simp only [Tr.cut, Tr.dep]; omega
  | .branch ps, n => by have := Tr.cuts_dep ps n; simp only [Tr.cut, Tr.dep]; omega
  | .loop p, n => by have := Tr.cut_dep p n; simp only [Tr.cut, Tr.dep]; omega
theorem Tr.cuts_dep : ∀ (ps : List Tr) (n : Int), Tr.deps (Tr.cuts ps n) ≤ Tr.deps ps
  | [], _ => Nat.le_refl _
  | p :: ps, n => by have := Tr.cut_dep p n; have := Tr.cuts_dep ps (n - p.ins.length); simp only [Tr.cuts, Tr.deps]; omega
end
mutual
theorem Tr.cut_nodes : ∀ (t : Tr) (n : Int), (t.cut n).nodes = t.nodes
  | .new x, n => by unfold Tr.cut; split <;> simp [Tr.nodes, Tr.nodesL]
  | .use x, n => by unfold Tr.cut; split <;> simp [Tr.nodes, Tr.nodesL]
  | .drop x, n => by unfold Tr.cut; split <;> simp [Tr.nodes, Tr.nodesL]
  | .copy x y, n => by unfold Tr.cut; split <;> simp [Tr.nodes, Tr.nodesL]
  | .seq ps, n => by have := Tr.cuts_nodes ps n; simp only [Tr.cut, Tr.nodes]; omega
  | .branch ps, n => by have := Tr.cuts_nodes ps n; simp only [Tr.cut, Tr.nodes]; omega
  | .loop p, n => by have := Tr.cut_nodes p n; simp only [Tr.cut, Tr.nodes]; omega
theorem Tr.cuts_nodes : ∀ (ps : List Tr) (n : Int), Tr.nodesL (Tr.cuts ps n) = Tr.nodesL ps
  | [], _ => rfl
  | p :: ps, n => by have := Tr.cut_nodes p n; have := Tr.cuts_nodes ps (n - p.ins.length); simp only [Tr.cuts, Tr.nodesL]; omega
end
theorem cut_good {t : Tr} (h : GoodT t) (n : Int) : GoodT (t.cut n) := ⟨Tr.cut_ok t n h.1, Nat.le_trans (Tr.cut_dep t n) h.2.1, by rw [Tr.cut_nodes]; exact h.2.2⟩

theorem max3 (ns : List Int) : ∃ j : Int, (if (if (ns.length : Int) < 3 then (ns.length : Int) else 3) > 1 then (if (ns.length : Int) < 3 then (ns.length : Int) else 3) else 1) = j ∧ 1 ≤ j ∧ j ≤ 3 := ⟨_, rfl, by split <;> split <;> omega, by split <;> split <;> omega⟩
theorem strF {x : Str} (h : sz (.str x) ≤ 60) : Fit 60 0 (.str x) := ⟨rfl, h, Nat.le_refl _⟩
theorem fitL_mem {c d : Nat} {vs : List AV} (h : ∀ v ∈ vs, Fit c d v) {v : AV} (m : v ∈ vs) : Fit c d v := h v m
def LawTh (t : Tr) (f : Fn) (B : Nat) : Prop := True
theorem law03_ok (T : Nat → Fn) (hh : HandOk (T i13_law_hand)) (ht : TakeOk (T i2_law_take)) (hs : SomeOk (T i25_law_some_programs)) (ho : OddF (T i8_law_odd)) (g1 : ListedOk (T i23_law_listed) 9) (hn : IsNumOk (T i46_law_is_number)) (hc : LCutOk (T i31_law_cut) 9)
    (hl : LeftOk (T i41_left_out)) (ns : List Int) : wp (fnR 10 1 (m448_law T) [.scr ns] []) fun v _ => v = .bl true := by
  refine fn_wp rfl ?_
  simp only [startA_s, List.map_cons, List.map_nil, List.length_cons, List.length_nil, Nat.reduceAdd, Nat.reduceSub, List.replicate_succ, List.replicate_zero, List.cons_append, List.nil_append]
  unfold m448_law
  (decreasing_trivial; repeat ((first | (with_reducible (refine w_len (by simp; done) ?_)) | (with_reducible (refine w_pow (by decide) (by decide) (by decide) ?_)) | fail); decreasing_trivial))
  obtain ⟨j, ej, j1, j2⟩ := max3 ns
  rw [ej]
  refine ⟨by omega, by omega, ?_⟩
  have hrl : (rangeL 0 j.toNat).length = j.toNat := by simp [rangeL]
  refine wo_dat (fun i ρ τ => ∃ x1 x2 x3 x4 x5 x6 x7 x8 x9, ρ = [some (.scr ns), x1, x2, x3, x4, x5, x6, x7, x8, x9]) ?_ ?_ FUEL 0 _ _ (by rw [hrl]; unfold FUEL; omega) (by omega) ⟨_, _, _, _, _, _, _, _, _, rfl⟩
  · rintro ρ τ ⟨x1, x2, x3, x4, x5, x6, x7, x8, x9, rfl⟩
    (decreasing_trivial; repeat ((first | (with_reducible (refine w_len (by simp; done) ?_)) | (with_reducible (refine w_pow (by decide) (by decide) (by decide) ?_)) | fail); decreasing_trivial))
    exact ⟨rfl, fun i o hi => absurd hi (by simp), rfl⟩
  · rintro i v ρ μ hv ⟨x1, x2, x3, x4, x5, x6, x7, x8, x9, rfl⟩
    obtain ⟨rfl, hi⟩ := rng_mem hv
    refine ⟨_, rfl, ?_⟩
    refine o_seq2 (fun ρ1 τ => Hst τ μ.length 0 ∧ ρ1 = [some (.scr ns), some (.int i), some (.loc μ.length), x3, x4, x5, x6, x7, x8, x9]) ?_ ?_
    · (decreasing_trivial; repeat ((first | (with_reducible (refine w_len (by simp; done) ?_)) | (with_reducible (refine w_pow (by decide) (by decide) (by decide) ?_)) | fail); decreasing_trivial))
      refine (hh ns i μ (by omega) (by omega)).mono fun u τ ⟨e1, e2, e3, e4⟩ => ?_
      subst e1
      exact ⟨e4, rfl⟩
    · rintro ρ1 τ ⟨hst, rfl⟩
      generalize μ.length = n at *
      (decreasing_trivial; repeat ((first | (with_reducible (refine w_len (by simp; done) ?_)) | (with_reducible (refine w_pow (by decide) (by decide) (by decide) ?_)) | fail); decreasing_trivial))
      refine w_anyL ?_
      (decreasing_trivial; repeat ((first | (with_reducible (refine w_len (by simp; done) ?_)) | (with_reducible (refine w_pow (by decide) (by decide) (by decide) ?_)) | fail); decreasing_trivial))
      refine (hs n 5 (by decide) (by decide) τ 0 (by decide) hst).mono fun v τ1 ⟨s1, q1, _, ts, e, hl5, hg⟩ => ?_
      subst e
      refine ⟨_, rfl, ?_⟩
      refine wo_dat (fun i2 ρ τ' => Hst τ' n (30000 + 1000 * i2) ∧ ∃ x3 x4 x5 x6 x7 x8 x9, ρ = [some (.scr ns), some (.int i), some (.loc n), x3, x4, x5, x6, x7, x8, x9]) ?_ ?_ FUEL 0 _ _ (by rw [Tr.vs_len]; unfold FUEL; omega) (by omega) ⟨q1, _, _, _, _, _, _, _, rfl⟩
      · rintro ρ τ' ⟨_, y3, y4, y5, y6, y7, y8, y9, rfl⟩
        exact ⟨_, _, _, _, _, _, _, _, _, rfl⟩
      · rintro i2 v ρ τ' hv2 ⟨hst2, y3, y4, y5, y6, y7, y8, y9, rfl⟩
        rw [Tr.vs_map, List.getElem?_map] at hv2
        obtain ⟨t, hti, rfl⟩ := Option.map_eq_some_iff.mp hv2
        have hi2 : i2 < 10 := by have := (List.getElem?_eq_some_iff.mp hti).1; omega
        have gt := hg t (List.mem_of_getElem? hti)
        obtain ⟨tk, td, tn⟩ := gt
        have ti : t.ins.length ≤ 60 := Nat.le_trans (Tr.ins_nodes t) tn
        have ft := Tr.fits tk tn td
        obtain ⟨D, eD, kD⟩ := ft.rep (by omega) (by omega)
        refine ⟨_, rfl, ?_⟩
        (decreasing_trivial; repeat ((first | (with_reducible (refine w_len (by simp; done) ?_)) | (with_reducible (refine w_pow (by decide) (by decide) (by decide) ?_)) | fail); decreasing_trivial))
        refine (g1 NM t tk td (by omega) τ').mono fun u σ ⟨e1, e2⟩ => ?_
        subst e1 e2
        (decreasing_trivial; repeat ((first | (with_reducible (refine w_len (by simp; done) ?_)) | (with_reducible (refine w_pow (by decide) (by decide) (by decide) ?_)) | fail); decreasing_trivial))
        refine w_repr eD kD ?_
        (decreasing_trivial; repeat ((first | (with_reducible (refine w_len (by simp; done) ?_)) | (with_reducible (refine w_pow (by decide) (by decide) (by decide) ?_)) | fail); decreasing_trivial))
        refine w_lRg ?_
        rw [Tr.vs_len]
        (decreasing_trivial; repeat ((first | (with_reducible (refine w_len (by simp; done) ?_)) | (with_reducible (refine w_pow (by decide) (by decide) (by decide) ?_)) | fail); decreasing_trivial))
        refine ⟨by omega, by omega, ?_⟩
        refine o_seq2 (fun ρ1 σ => Hst σ n (30000 + 1000 * i2 + 10) ∧ ∃ x9 xs, ρ1 = [some (.scr ns), some (.int i), some (.loc n), some t.v, some (.int t.ins.length), some (.str D.shown), some (.lst xs), y7, y8, x9] ∧ xs.length ≤ 60 ∧ ∀ x ∈ xs, Fit 500 30 x) ?_ ?_
        · refine o_if ?_
          (decreasing_trivial; repeat ((first | (with_reducible (refine w_len (by simp; done) ?_)) | (with_reducible (refine w_pow (by decide) (by decide) (by decide) ?_)) | fail); decreasing_trivial))
          refine ite_k (fun h12 => ?_) (fun h12 => ?_)
          · have h12 := of_decide_eq_true h12
            (decreasing_trivial; repeat ((first | (with_reducible (refine w_len (by simp; done) ?_)) | (with_reducible (refine w_pow (by decide) (by decide) (by decide) ?_)) | fail); decreasing_trivial))
            refine ⟨by omega, by omega, ?_⟩
            refine wp_lc (fun q acc τ2 => Stp n σ τ2 ∧ Hst τ2 n (30000 + 1000 * i2 + q) ∧ acc.length = q ∧ ∀ x ∈ acc, Fit 500 30 x) (by simp [rangeL]) (fun q acc τ2 h => h.2.2.1) ?_ ?_ FUEL 0 _ _ (by simp [rangeL, FUEL]) (by omega) ⟨Stp.refl n σ, hst2, rfl, fun x h => (nomatch h)⟩
            · rintro acc τ2 ⟨t2, h2, hl2, ha⟩
              have h8 : (rangeL 0 (8 : Int).toNat).length = 8 := by simp [rangeL]
              rw [h8] at h2 hl2
              (decreasing_trivial; repeat ((first | (with_reducible (refine w_len (by simp; done) ?_)) | (with_reducible (refine w_pow (by decide) (by decide) (by decide) ?_)) | fail); decreasing_trivial))
              refine ⟨_, _, rfl, rfl, by simp [hl2], ?_⟩
              (decreasing_trivial; repeat ((first | (with_reducible (refine w_len (by simp; done) ?_)) | (with_reducible (refine w_pow (by decide) (by decide) (by decide) ?_)) | fail); decreasing_trivial))
              refine ⟨h2.le (by omega), _, _, rfl, by simp [hl2], ?_⟩
              intro x hx
              simp only [List.cons_append, List.nil_append, List.mem_cons] at hx
              rcases hx with h | h | h
              · subst h; exact (fit_int (by decide)).mono (by omega) (by omega)
              · subst h; exact (fit_int (small_fit (by omega) (by omega))).mono (by omega) (by omega)
              · exact ha x h
            · rintro q v acc τ2 hv3 ⟨t2, h2, hl2, ha⟩
              obtain ⟨rfl, hq⟩ := rng_mem hv3
              refine ⟨_, rfl, ?_⟩
              (decreasing_trivial; repeat ((first | (with_reducible (refine w_len (by simp; done) ?_)) | (with_reducible (refine w_pow (by decide) (by decide) (by decide) ?_)) | fail); decreasing_trivial))
              refine (ht n _ (by omega) (by omega) τ2 _ (by omega) h2).mono fun v τ3 ⟨s3, h3, _, z, e, z0, z1⟩ => ?_
              subst e
              refine ⟨t2.trans s3, h3, by simp [hl2], ?_⟩
              intro x hx
              rcases List.mem_append.mp hx with h | h
              · exact ha x h
              · rw [List.mem_singleton.mp h]
                exact (fit_int (small_fit (by omega) (by omega))).mono (by omega) (by omega)
          · have h12 := of_decide_eq_false h12
            (decreasing_trivial; repeat ((first | (with_reducible (refine w_len (by simp; done) ?_)) | (with_reducible (refine w_pow (by decide) (by decide) (by decide) ?_)) | fail); decreasing_trivial))
            refine ⟨hst2.le (by omega), _, _, rfl, by simp [rangeL]; omega, ?_⟩
            intro x hx
            obtain ⟨q, hq⟩ := List.getElem?_of_mem hx
            obtain ⟨rfl, hq2⟩ := rng_mem hq
            exact (fit_int (small_fit (by omega) (by omega))).mono (by omega) (by omega)
        · rintro ρ1 σ1 ⟨h1, x9, xs, rfl, hxl, hxf⟩
          (decreasing_trivial; repeat ((first | (with_reducible (refine w_len (by simp; done) ?_)) | (with_reducible (refine w_pow (by decide) (by decide) (by decide) ?_)) | fail); decreasing_trivial))
          refine ⟨_, _, rfl, rfl, by simp; omega, ?_⟩
          (decreasing_trivial; repeat ((first | (with_reducible (refine w_len (by simp; done) ?_)) | (with_reducible (refine w_pow (by decide) (by decide) (by decide) ?_)) | fail); decreasing_trivial))
          refine (ho n σ1 _ (by omega) h1).mono fun u σ2 ⟨s2, h2, _, f2⟩ => ?_
          (decreasing_trivial; repeat ((first | (with_reducible (refine w_len (by simp; done) ?_)) | (with_reducible (refine w_pow (by decide) (by decide) (by decide) ?_)) | fail); decreasing_trivial))
          refine (ho n σ2 _ (by omega) h2).mono fun w σ3 ⟨s3, h3, _, f3⟩ => ?_
          (decreasing_trivial; repeat ((first | (with_reducible (refine w_len (by simp; done) ?_)) | (with_reducible (refine w_pow (by decide) (by decide) (by decide) ?_)) | fail); decreasing_trivial))
          refine ⟨_, _, rfl, rfl, by simp; omega, ?_⟩
          generalize hXS : xs ++ [AV.int ↑t.ins.length, .int (-1), .bl true, .non, .str (Str.ofString "0"), .tup [.int 0], .int (↑t.ins.length + 5)] ++ [u, w] = XS
          have hXl : XS.length ≤ 100 := by rw [← hXS]; simp; omega
          have hXf : ∀ x ∈ XS, Fit 500 30 x := by
            intro x hx
            rw [← hXS] at hx
            rcases List.mem_append.mp hx with hx | hx
            · rcases List.mem_append.mp hx with hx | hx
              · exact hxf x hx
              · simp only [List.mem_cons, List.not_mem_nil, or_false] at hx
                rcases hx with h | h | h | h | h | h | h <;> subst h
                · exact (fit_int (small_fit (by omega) (by omega))).mono (by omega) (by omega)
                · exact (fit_int (by decide)).mono (by omega) (by omega)
                · exact (Fit.bl true).mono (by omega) (by omega)
                · exact ⟨by decide, by decide +kernel, by decide⟩
                · exact ⟨by decide, by decide +kernel, by decide⟩
                · exact ⟨by decide, by decide +kernel, by decide⟩
                · exact (fit_int (small_fit (by omega) (by omega))).mono (by omega) (by omega)
            · simp only [List.mem_cons, List.not_mem_nil, or_false] at hx
              rcases hx with h | h <;> subst h
              · exact f2
              · exact f3
          refine o_for (w_anyL ?_)
          (decreasing_trivial; repeat ((first | (with_reducible (refine w_len (by simp; done) ?_)) | (with_reducible (refine w_pow (by decide) (by decide) (by decide) ?_)) | fail); decreasing_trivial))
          refine wo_dat (fun i3 ρ τ2 => Hst τ2 n (30000 + 1000 * i2 + 300) ∧ ∃ y7 y8 y9, ρ = [some (.scr ns), some (.int i), some (.loc n), some t.v, some (.int t.ins.length), some (.str D.shown), some (.lst XS), y7, y8, y9]) ?_ ?_ FUEL 0 _ _ (by unfold FUEL; omega) (by omega) ⟨h3.le (by omega), _, _, _, rfl⟩
          · rintro ρ τ2 ⟨h4, y7, y8, y9, rfl⟩
            exact ⟨h4.le (by omega), _, _, _, _, _, _, _, rfl⟩
          · rintro i3 x ρ τ2 hx ⟨h4, y7, y8, y9, rfl⟩
            have fx := hXf x (List.mem_of_getElem? hx)
            refine ⟨_, rfl, ?_⟩
            have step : ∀ r : RX, r = (if isNum t.ins.length x = true then RX.ok (t.cut (numOf x)).v else .ex 1 (some x)) → r.good = true ∧ Fit 4000 40 (toldT r) := fun r er => by
              by_cases hb : isNum t.ins.length x = true
              · rw [if_pos hb] at er
                subst er
                have gc := cut_good ⟨tk, td, tn⟩ (numOf x)
                have fc := Tr.fits gc.1 gc.2.2 gc.2.1
                exact ⟨Tr.vpure _, (FitL.cons (⟨by decide, by decide +kernel, by decide⟩ : Fit 20 0 (.str "told")) (FitL.cons fc .nil)).tup.mono (by omega) (by omega)⟩
              · rw [if_neg hb] at er
                subst er
                exact ⟨by show (true && pure? x) = true; rw [fx.pure]; rfl, (FitL.cons (⟨by decide, by decide +kernel, by decide⟩ : Fit 20 0 (.str "instruction")) (FitL.cons fx .nil)).tup.mono (by omega) (by omega)⟩
            have tail : ∀ (y8 : AV) (τ3 : Store), Hst τ3 n (30000 + 1000 * i2 + 300) → (∃ r, y8 = toldT r ∧ r = (if isNum t.ins.length x = true then RX.ok (t.cut (numOf x)).v else .ex 1 (some x))) →
                wo (sSeq (sIf (tB1 (eOp gNe (eCB gRepr (aCons (eLam (mth436_law_raised T) 5 (eCall (T i41_left_out) (aCons (eVar 3) (aCons (eVar 7) aNil)))) aNil)) (eCB gRepr (aCons (eVar 8) aNil)))) (sRet (eC (.bl false))) sNil) (sIf (tB1 (eOp gNe (eCB gRepr (aCons (eVar 3) aNil)) (eVar 5))) (sRet (eC (.bl false))) sNil)
                  [some (.scr ns), some (.int i), some (.loc n), some t.v, some (.int t.ins.length), some (.str D.shown), some (.lst XS), some x, some y8, y9] τ3)
                  { nx := fun ρ τ2 => Hst τ2 n (30000 + 1000 * i2 + 300) ∧ ∃ y7 y8 y9, ρ = [some (.scr ns), some (.int i), some (.loc n), some t.v, some (.int t.ins.length), some (.str D.shown), some (.lst XS), y7, y8, y9] } := by
              rintro y8 τ3 h4 ⟨r, rfl, er⟩
              obtain ⟨gr, fr⟩ := step r er
              obtain ⟨D2, eD2, kD2⟩ := fr.rep (by omega) (by omega)
              have call : (fun ρ μ => eCall (T i41_left_out) (aCons (eVar 3) (aCons (eVar 7) aNil)) ρ μ) [some (.scr ns), some (.int i), some (.loc n), some t.v, some (.int t.ins.length), some (.str D.shown), some (.lst XS), some x, some (toldT r), y9] τ3 = r.res τ3 := by
                have := hl t x tk td (by omega) fx.1 τ3
                rw [← er] at this
                exact this
              (decreasing_trivial; repeat ((first | (with_reducible (refine w_len (by simp; done) ?_)) | (with_reducible (refine w_pow (by decide) (by decide) (by decide) ?_)) | fail); decreasing_trivial))
              rw [lam_told T call gr]
              (decreasing_trivial; repeat ((first | (with_reducible (refine w_len (by simp; done) ?_)) | (with_reducible (refine w_pow (by decide) (by decide) (by decide) ?_)) | fail); decreasing_trivial))
              refine w_repr eD2 kD2 ?_
              (decreasing_trivial; repeat ((first | (with_reducible (refine w_len (by simp; done) ?_)) | (with_reducible (refine w_pow (by decide) (by decide) (by decide) ?_)) | fail); decreasing_trivial))
              refine w_repr eD2 kD2 ?_
              (decreasing_trivial; repeat ((first | (with_reducible (refine w_len (by simp; done) ?_)) | (with_reducible (refine w_pow (by decide) (by decide) (by decide) ?_)) | fail); decreasing_trivial))
              refine ne_same ?_
              refine ⟨_, rfl, ?_⟩
              rw [if_neg (by simp)]
              (decreasing_trivial; repeat ((first | (with_reducible (refine w_len (by simp; done) ?_)) | (with_reducible (refine w_pow (by decide) (by decide) (by decide) ?_)) | fail); decreasing_trivial))
              refine w_repr eD kD ?_
              (decreasing_trivial; repeat ((first | (with_reducible (refine w_len (by simp; done) ?_)) | (with_reducible (refine w_pow (by decide) (by decide) (by decide) ?_)) | fail); decreasing_trivial))
              refine ne_same ?_
              refine ⟨_, rfl, ?_⟩
              rw [if_neg (by simp)]
              (decreasing_trivial; repeat ((first | (with_reducible (refine w_len (by simp; done) ?_)) | (with_reducible (refine w_pow (by decide) (by decide) (by decide) ?_)) | fail); decreasing_trivial))
              exact ⟨h4, _, _, _, rfl⟩
            refine o_seq2 (fun ρ1 σ => σ = τ2 ∧ ρ1 = [some (.scr ns), some (.int i), some (.loc n), some t.v, some (.int t.ins.length), some (.str D.shown), some (.lst XS), some x, some (.tup [.str "instruction", x]), y9]) (by (decreasing_trivial; repeat ((first | (with_reducible (refine w_len (by simp; done) ?_)) | (with_reducible (refine w_pow (by decide) (by decide) (by decide) ?_)) | fail); decreasing_trivial)); exact ⟨rfl, rfl⟩) ?_
            rintro ρ1 τ3 ⟨rfl, rfl⟩
            refine o_seq2 (fun ρ1 σ => σ = τ3 ∧ ∃ r, ρ1 = [some (.scr ns), some (.int i), some (.loc n), some t.v, some (.int t.ins.length), some (.str D.shown), some (.lst XS), some x, some (toldT r), y9] ∧ r = (if isNum t.ins.length x = true then RX.ok (t.cut (numOf x)).v else .ex 1 (some x))) ?_ ?_
            · (decreasing_trivial; repeat ((first | (with_reducible (refine w_len (by simp; done) ?_)) | (with_reducible (refine w_pow (by decide) (by decide) (by decide) ?_)) | fail); decreasing_trivial))
              refine (hn x t.ins.length fx.1 τ3).mono fun v τ4 ⟨e1, e2⟩ => ?_
              subst e1 e2
              refine ⟨_, rfl, ?_⟩
              by_cases hb : isNum t.ins.length x = true
              · rw [if_pos hb]
                obtain ⟨m, rfl⟩ : ∃ m, x = .int m := by
                  cases x <;> first | exact ⟨_, rfl⟩ | cases hb
                (decreasing_trivial; repeat ((first | (with_reducible (refine w_len (by simp; done) ?_)) | (with_reducible (refine w_pow (by decide) (by decide) (by decide) ?_)) | fail); decreasing_trivial))
                refine (hc NM t m tk td (by omega) τ4).mono fun v τ5 ⟨e1, e2⟩ => ?_
                subst e1 e2
                (decreasing_trivial; repeat ((first | (with_reducible (refine w_len (by simp; done) ?_)) | (with_reducible (refine w_pow (by decide) (by decide) (by decide) ?_)) | fail); decreasing_trivial))
                refine w_ixT rfl ?_
                (decreasing_trivial; repeat ((first | (with_reducible (refine w_len (by simp; done) ?_)) | (with_reducible (refine w_pow (by decide) (by decide) (by decide) ?_)) | fail); decreasing_trivial))
                exact ⟨rfl, .ok (t.cut m).v, rfl, by rw [if_pos hb]; rfl⟩
              · rw [if_neg hb]
                (decreasing_trivial; repeat ((first | (with_reducible (refine w_len (by simp; done) ?_)) | (with_reducible (refine w_pow (by decide) (by decide) (by decide) ?_)) | fail); decreasing_trivial))
                exact ⟨rfl, .ex 1 (some x), rfl, by rw [if_neg hb]⟩
            · rintro ρ1 τ4 ⟨rfl, r, rfl, er⟩
              exact (tail (toldT r) τ4 h4 ⟨r, rfl, er⟩).mono (fun _ _ h => h) (fun _ _ h => False.elim h) (fun _ _ h => False.elim h) (fun _ _ h => False.elim h)
end Lr

namespace Lr.Own
open PySem PySem.Spec L2 Lr
open PyProof.Rows hiding St
def topS (i : Nat) : Stmt := PySem.Challenge.pw_leanrefs_k03_instructions_left_out.main.body.getD i (.Pass ⟨0, 0, 0, 0⟩)
abbrev s_parts_of : Stmt := topS 14
theorem sc_parts_of : FnScope ["program"] ["program"] (defScope s_parts_of) := ⟨rfl, rfl, rfl, by decide +kernel, rfl, by decide +kernel, by decide +kernel⟩
abbrev s_instructions : Stmt := topS 15
theorem sc_instructions : FnScope ["program", "found", "part"] ["program"] (defScope s_instructions) := ⟨rfl, rfl, rfl, by decide +kernel, rfl, by decide +kernel, by decide +kernel⟩
abbrev s_check_number : Stmt := topS 16
theorem sc_check_number : FnScope ["program", "number"] ["program", "number"] (defScope s_check_number) := ⟨rfl, rfl, rfl, by decide +kernel, rfl, by decide +kernel, by decide +kernel⟩
abbrev s_cut_from : Stmt := topS 17
theorem sc_cut_from : FnScope ["program", "number", "many", "parts", "part"] ["program", "number"] (defScope s_cut_from) := ⟨rfl, rfl, rfl, by decide +kernel, rfl, by decide +kernel, by decide +kernel⟩
abbrev s_left_out : Stmt := topS 18
theorem sc_left_out : FnScope ["program", "number"] ["program", "number"] (defScope s_left_out) := ⟨rfl, rfl, rfl, by decide +kernel, rfl, by decide +kernel, by decide +kernel⟩
abbrev s__law_hand : Stmt := topS 20
theorem sc__law_hand : FnScope ["_law_script", "_law_k", "_law_cell", "_law_great"] ["_law_script", "_law_k"] (defScope s__law_hand) := ⟨rfl, rfl, rfl, by decide +kernel, rfl, by decide +kernel, by decide +kernel⟩
abbrev s__law_take : Stmt := topS 21
theorem sc__law_take : FnScope ["_law_hand_here", "_law_many", "_law_digit", "_law_prime", "_law_drawn"] ["_law_hand_here", "_law_many"] (defScope s__law_take) := ⟨rfl, rfl, rfl, by decide +kernel, rfl, by decide +kernel, by decide +kernel⟩
abbrev s__law_of : Stmt := topS 22
theorem sc__law_of : FnScope ["_law_hand_here", "_law_some"] ["_law_hand_here", "_law_some"] (defScope s__law_of) := ⟨rfl, rfl, rfl, by decide +kernel, rfl, by decide +kernel, by decide +kernel⟩
abbrev s__law_names : Stmt := topS 23
theorem sc__law_names : FnScope ["_law_hand_here", "_law_count", "_law_left"] ["_law_hand_here", "_law_count"] (defScope s__law_names) := ⟨rfl, rfl, rfl, by decide +kernel, rfl, by decide +kernel, by decide +kernel⟩
abbrev s__law_instruction : Stmt := topS 24
theorem sc__law_instruction : FnScope ["_law_hand_here", "_law_names_here", "_law_way", "_law_name"] ["_law_hand_here", "_law_names_here"] (defScope s__law_instruction) := ⟨rfl, rfl, rfl, by decide +kernel, rfl, by decide +kernel, by decide +kernel⟩
abbrev s__law_tree : Stmt := topS 25
theorem sc__law_tree : FnScope ["_law_hand_here", "_law_names_here", "_law_size_here", "_law_deep", "_law_way", "_law_many", "_law_parts", "_law_spare_part", "_law_part"] ["_law_hand_here", "_law_names_here", "_law_size_here", "_law_deep"] (defScope s__law_tree) := ⟨rfl, rfl, rfl, by decide +kernel, rfl, by decide +kernel, by decide +kernel⟩
abbrev s__law_nodes : Stmt := topS 26
theorem sc__law_nodes : FnScope ["_law_program_here", "_law_part"] ["_law_program_here"] (defScope s__law_nodes) := ⟨rfl, rfl, rfl, by decide +kernel, rfl, by decide +kernel, by decide +kernel⟩
abbrev s__law_program : Stmt := topS 27
theorem sc__law_program : FnScope ["_law_hand_here", "_law_most", "_law_names_here", "_law_tree_here", "_law_head", "_law_tail", "_law_whole", "_law_turn"] ["_law_hand_here", "_law_most"] (defScope s__law_program) := ⟨rfl, rfl, rfl, by decide +kernel, rfl, by decide +kernel, by decide +kernel⟩
abbrev s__law_size : Stmt := topS 28
theorem sc__law_size : FnScope ["_law_hand_here"] ["_law_hand_here"] (defScope s__law_size) := ⟨rfl, rfl, rfl, by decide +kernel, rfl, by decide +kernel, by decide +kernel⟩
abbrev s__law_listed : Stmt := topS 29
theorem sc__law_listed : FnScope ["_law_program_here", "_law_found", "_law_part"] ["_law_program_here"] (defScope s__law_listed) := ⟨rfl, rfl, rfl, by decide +kernel, rfl, by decide +kernel, by decide +kernel⟩
abbrev s__law_odd : Stmt := topS 30
theorem sc__law_odd : FnScope ["_law_hand_here", "_law_some", "_law_found", "_law_turn"] ["_law_hand_here"] (defScope s__law_odd) := ⟨rfl, rfl, rfl, by decide +kernel, rfl, by decide +kernel, by decide +kernel⟩
abbrev s__law_some_programs : Stmt := topS 31
theorem sc__law_some_programs : FnScope ["_law_hand_here", "_law_count", "_law_found", "_law_none", "_law_few", "_law_turn"] ["_law_hand_here", "_law_count"] (defScope s__law_some_programs) := ⟨rfl, rfl, rfl, by decide +kernel, rfl, by decide +kernel, by decide +kernel⟩
abbrev s__law_raised : Stmt := topS 32
theorem sc__law_raised : FnScope ["_law_call", "_law_caught", "_law_told", "_law_kinds", "error"] ["_law_call"] (defScope s__law_raised) := ⟨rfl, rfl, rfl, by decide +kernel, rfl, by decide +kernel, by decide +kernel⟩
abbrev s__law_is_number : Stmt := topS 33
theorem sc__law_is_number : FnScope ["_law_thing", "_law_count"] ["_law_thing", "_law_count"] (defScope s__law_is_number) := ⟨rfl, rfl, rfl, by decide +kernel, rfl, by decide +kernel, by decide +kernel⟩
abbrev s__law_cut : Stmt := topS 34
theorem sc__law_cut : FnScope ["_law_program_here", "_law_number", "_law_body", "_law_many", "_law_parts", "_law_part", "_law_one", "_law_its"] ["_law_program_here", "_law_number"] (defScope s__law_cut) := ⟨rfl, rfl, rfl, by decide +kernel, rfl, by decide +kernel, by decide +kernel⟩
abbrev s_law : Stmt := topS 35
theorem sc_law : FnScope ["_law_script", "_law_k", "_law_hand_here", "_law_program_here", "_law_many", "_law_noted", "_law_things", "_law_thing", "_law_due", "_law_turn"] ["_law_script"] (defScope s_law) := ⟨rfl, rfl, rfl, by decide +kernel, rfl, by decide +kernel, by decide +kernel⟩
def psT : Nat → List Str
  | 19 => ["program"]
  | 20 => ["program"]
  | 29 => ["program", "number"]
  | 30 => ["program", "number"]
  | 41 => ["program", "number"]
  | 13 => ["_law_script", "_law_k"]
  | 2 => ["_law_hand_here", "_law_many"]
  | 3 => ["_law_hand_here", "_law_some"]
  | 7 => ["_law_hand_here", "_law_count"]
  | 4 => ["_law_hand_here", "_law_names_here"]
  | 5 => ["_law_hand_here", "_law_names_here", "_law_size_here", "_law_deep"]
  | 6 => ["_law_program_here"]
  | 15 => ["_law_hand_here", "_law_most"]
  | 14 => ["_law_hand_here"]
  | 23 => ["_law_program_here"]
  | 8 => ["_law_hand_here"]
  | 25 => ["_law_hand_here", "_law_count"]
  | 46 => ["_law_thing", "_law_count"]
  | 31 => ["_law_program_here", "_law_number"]
  | 448 => ["_law_script"]
  | _ => []
def ids : List Nat := [19, 20, 29, 30, 41, 13, 2, 3, 7, 4, 5, 6, 15, 14, 23, 8, 25, 46, 31, 448]
noncomputable def tab (T : Nat → Fn) : Nat → Fn
  | 19 => fnR 1 1 (m19_parts_of T)
  | 20 => fnR 3 1 (m20_instructions T)
  | 29 => fnR 2 2 (m29_check_number T)
  | 30 => fnR 5 2 (m30_cut_from T)
  | 41 => fnR 2 2 (m41_left_out T)
  | 13 => fnR 4 2 (m13_law_hand T)
  | 2 => fnR 5 2 (m2_law_take T)
  | 3 => fnR 2 2 (m3_law_of T)
  | 7 => fnR 3 2 (m7_law_names T)
  | 4 => fnR 4 2 (m4_law_instruction T)
  | 5 => fnR 9 4 (m5_law_tree T)
  | 6 => fnR 2 1 (m6_law_nodes T)
  | 15 => fnR 8 2 (m15_law_program T)
  | 14 => fnR 1 1 (m14_law_size T)
  | 23 => fnR 3 1 (m23_law_listed T)
  | 8 => fnR 4 1 (m8_law_odd T)
  | 25 => fnR 6 2 (m25_law_some_programs T)
  | 46 => fnR 2 2 (m46_law_is_number T)
  | 31 => fnR 8 2 (m31_law_cut T)
  | 448 => fnR 10 1 (m448_law T)
  | _ => fun _ _ => .bad
noncomputable def T : Nat → Nat → Fn
  | 0 => fun _ _ _ => .bad
  | k + 1 => tab (T k)
abbrev x_NoInstruction : Stmt := (clsB (topS 2)).getD 0 (.Pass ⟨0, 0, 0, 0⟩)
theorem scx_NoInstruction : FnScope ["self", "value"] ["self", "value"] (defScope x_NoInstruction) := ⟨rfl, rfl, rfl, by decide +kernel, rfl, by decide +kernel, by decide +kernel⟩
abbrev x_TooMany : Stmt := (clsB (topS 3)).getD 0 (.Pass ⟨0, 0, 0, 0⟩)
theorem scx_TooMany : FnScope ["self", "value"] ["self", "value"] (defScope x_TooMany) := ⟨rfl, rfl, rfl, by decide +kernel, rfl, by decide +kernel, by decide +kernel⟩
abbrev x_BadRun : Stmt := (clsB (topS 4)).getD 0 (.Pass ⟨0, 0, 0, 0⟩)
theorem scx_BadRun : FnScope ["self", "value"] ["self", "value"] (defScope x_BadRun) := ⟨rfl, rfl, rfl, by decide +kernel, rfl, by decide +kernel, by decide +kernel⟩
abbrev x_NoObject : Stmt := (clsB (topS 5)).getD 0 (.Pass ⟨0, 0, 0, 0⟩)
theorem scx_NoObject : FnScope ["self", "value"] ["self", "value"] (defScope x_NoObject) := ⟨rfl, rfl, rfl, by decide +kernel, rfl, by decide +kernel, by decide +kernel⟩
abbrev x_BadNames : Stmt := (clsB (topS 6)).getD 0 (.Pass ⟨0, 0, 0, 0⟩)
theorem scx_BadNames : FnScope ["self", "value"] ["self", "value"] (defScope x_BadNames) := ⟨rfl, rfl, rfl, by decide +kernel, rfl, by decide +kernel, by decide +kernel⟩
abbrev x_NotUsed : Stmt := (clsB (topS 7)).getD 0 (.Pass ⟨0, 0, 0, 0⟩)
theorem scx_NotUsed : FnScope ["self", "value"] ["self", "value"] (defScope x_NotUsed) := ⟨rfl, rfl, rfl, by decide +kernel, rfl, by decide +kernel, by decide +kernel⟩
abbrev x_BadText : Stmt := (clsB (topS 8)).getD 0 (.Pass ⟨0, 0, 0, 0⟩)
theorem scx_BadText : FnScope ["self", "value"] ["self", "value"] (defScope x_BadText) := ⟨rfl, rfl, rfl, by decide +kernel, rfl, by decide +kernel, by decide +kernel⟩
structure Md (K : PySem.W.Frag) (mg : Str → Option Value) (κ : Kap) (f : Nat → Addr) (fd : Nat → FuncData) (fx : Nat → Addr) (fdx : Nat → FuncData) (cL pL : Nat → Addr) : Prop where
  co_law : (fd i448_law).code = .ref (cL i448_law)
  hm_law : (pL i448_law, (PyProof.Rows.envOfC "law" (defScope s_law) 0 0 .none).qual ++ ("<lambda>" : Str)) ∈ κ.T
  hu_law : ∀ p ∈ κ.T, p.1 = pL i448_law → p.2 = (PyProof.Rows.envOfC "law" (defScope s_law) 0 0 .none).qual ++ ("<lambda>" : Str)
  xg_CountError : mg "CountError" = some (.ref (κ 0))
  xk_CountError : KC K κ 0
  xp_CountError : Pres K (κ 0)
  xo_CountError : OexC K (κ 0)
  xg_NoInstruction : mg "NoInstruction" = some (.ref (κ 1))
  xk_NoInstruction : KC K κ 1
  xp_NoInstruction : Pres K (κ 1)
  xo_NoInstruction : OexC K (κ 1)
  xi_NoInstruction : PySem.W.findIn K (.ref (κ 1)) "__init__" = some (some (.ref (fx 1)))
  xj_NoInstruction : PySem.W.typeIn K (.ref (fx 1)) = some (.type "function")
  xF_NoInstruction : Fun K "__init__" "NoInstruction.__init__" x_NoInstruction (fx 1) (fdx 1)
  xa_NoInstruction : Binds K (fdx 1) ["self", "value"] []
  xg_TooMany : mg "TooMany" = some (.ref (κ 2))
  xk_TooMany : KC K κ 2
  xp_TooMany : Pres K (κ 2)
  xo_TooMany : OexC K (κ 2)
  xi_TooMany : PySem.W.findIn K (.ref (κ 2)) "__init__" = some (some (.ref (fx 2)))
  xj_TooMany : PySem.W.typeIn K (.ref (fx 2)) = some (.type "function")
  xF_TooMany : Fun K "__init__" "TooMany.__init__" x_TooMany (fx 2) (fdx 2)
  xa_TooMany : Binds K (fdx 2) ["self", "value"] []
  xg_BadRun : mg "BadRun" = some (.ref (κ 3))
  xk_BadRun : KC K κ 3
  xp_BadRun : Pres K (κ 3)
  xo_BadRun : OexC K (κ 3)
  xi_BadRun : PySem.W.findIn K (.ref (κ 3)) "__init__" = some (some (.ref (fx 3)))
  xj_BadRun : PySem.W.typeIn K (.ref (fx 3)) = some (.type "function")
  xF_BadRun : Fun K "__init__" "BadRun.__init__" x_BadRun (fx 3) (fdx 3)
  xa_BadRun : Binds K (fdx 3) ["self", "value"] []
  xg_NoObject : mg "NoObject" = some (.ref (κ 4))
  xk_NoObject : KC K κ 4
  xp_NoObject : Pres K (κ 4)
  xo_NoObject : OexC K (κ 4)
  xi_NoObject : PySem.W.findIn K (.ref (κ 4)) "__init__" = some (some (.ref (fx 4)))
  xj_NoObject : PySem.W.typeIn K (.ref (fx 4)) = some (.type "function")
  xF_NoObject : Fun K "__init__" "NoObject.__init__" x_NoObject (fx 4) (fdx 4)
  xa_NoObject : Binds K (fdx 4) ["self", "value"] []
  xg_BadNames : mg "BadNames" = some (.ref (κ 5))
  xk_BadNames : KC K κ 5
  xp_BadNames : Pres K (κ 5)
  xo_BadNames : OexC K (κ 5)
  xi_BadNames : PySem.W.findIn K (.ref (κ 5)) "__init__" = some (some (.ref (fx 5)))
  xj_BadNames : PySem.W.typeIn K (.ref (fx 5)) = some (.type "function")
  xF_BadNames : Fun K "__init__" "BadNames.__init__" x_BadNames (fx 5) (fdx 5)
  xa_BadNames : Binds K (fdx 5) ["self", "value"] []
  xg_NotUsed : mg "NotUsed" = some (.ref (κ 6))
  xk_NotUsed : KC K κ 6
  xp_NotUsed : Pres K (κ 6)
  xo_NotUsed : OexC K (κ 6)
  xi_NotUsed : PySem.W.findIn K (.ref (κ 6)) "__init__" = some (some (.ref (fx 6)))
  xj_NotUsed : PySem.W.typeIn K (.ref (fx 6)) = some (.type "function")
  xF_NotUsed : Fun K "__init__" "NotUsed.__init__" x_NotUsed (fx 6) (fdx 6)
  xa_NotUsed : Binds K (fdx 6) ["self", "value"] []
  xg_BadText : mg "BadText" = some (.ref (κ 11))
  xk_BadText : KC K κ 11
  xp_BadText : Pres K (κ 11)
  xo_BadText : OexC K (κ 11)
  xi_BadText : PySem.W.findIn K (.ref (κ 11)) "__init__" = some (some (.ref (fx 11)))
  xj_BadText : PySem.W.typeIn K (.ref (fx 11)) = some (.type "function")
  xF_BadText : Fun K "__init__" "BadText.__init__" x_BadText (fx 11) (fdx 11)
  xa_BadText : Binds K (fdx 11) ["self", "value"] []
  xs : PySem.W.specialIn K (.ref (κ 0)) "__getattribute__" = some (some (.builtin "type.__getattribute__"))
  xr : PySem.W.readsIn K (κ 0) (.type "type") = true
  xv : PySem.W.findCls K (.ref (κ 0)) (.type "type") "__init__" = some (.val (.builtin "ValueError.__init__"))
  F_parts_of : Fun K "parts_of" "parts_of" s_parts_of (f i19_parts_of) (fd i19_parts_of)
  g_parts_of : mg "parts_of" = some (.ref (f i19_parts_of))
  a_parts_of : Binds K (fd i19_parts_of) ["program"] []
  F_instructions : Fun K "instructions" "instructions" s_instructions (f i20_instructions) (fd i20_instructions)
  g_instructions : mg "instructions" = some (.ref (f i20_instructions))
  a_instructions : Binds K (fd i20_instructions) ["program"] []
  F_check_number : Fun K "check_number" "check_number" s_check_number (f i29_check_number) (fd i29_check_number)
  g_check_number : mg "check_number" = some (.ref (f i29_check_number))
  a_check_number : Binds K (fd i29_check_number) ["program", "number"] []
  F_cut_from : Fun K "cut_from" "cut_from" s_cut_from (f i30_cut_from) (fd i30_cut_from)
  g_cut_from : mg "cut_from" = some (.ref (f i30_cut_from))
  a_cut_from : Binds K (fd i30_cut_from) ["program", "number"] []
  F_left_out : Fun K "left_out" "left_out" s_left_out (f i41_left_out) (fd i41_left_out)
  g_left_out : mg "left_out" = some (.ref (f i41_left_out))
  a_left_out : Binds K (fd i41_left_out) ["program", "number"] []
  F__law_hand : Fun K "_law_hand" "_law_hand" s__law_hand (f i13_law_hand) (fd i13_law_hand)
  g__law_hand : mg "_law_hand" = some (.ref (f i13_law_hand))
  a__law_hand : Binds K (fd i13_law_hand) ["_law_script", "_law_k"] []
  F__law_take : Fun K "_law_take" "_law_take" s__law_take (f i2_law_take) (fd i2_law_take)
  g__law_take : mg "_law_take" = some (.ref (f i2_law_take))
  a__law_take : Binds K (fd i2_law_take) ["_law_hand_here", "_law_many"] []
  F__law_of : Fun K "_law_of" "_law_of" s__law_of (f i3_law_of) (fd i3_law_of)
  g__law_of : mg "_law_of" = some (.ref (f i3_law_of))
  a__law_of : Binds K (fd i3_law_of) ["_law_hand_here", "_law_some"] []
  F__law_names : Fun K "_law_names" "_law_names" s__law_names (f i7_law_names) (fd i7_law_names)
  g__law_names : mg "_law_names" = some (.ref (f i7_law_names))
  a__law_names : Binds K (fd i7_law_names) ["_law_hand_here", "_law_count"] []
  F__law_instruction : Fun K "_law_instruction" "_law_instruction" s__law_instruction (f i4_law_instruction) (fd i4_law_instruction)
  g__law_instruction : mg "_law_instruction" = some (.ref (f i4_law_instruction))
  a__law_instruction : Binds K (fd i4_law_instruction) ["_law_hand_here", "_law_names_here"] []
  F__law_tree : Fun K "_law_tree" "_law_tree" s__law_tree (f i5_law_tree) (fd i5_law_tree)
  g__law_tree : mg "_law_tree" = some (.ref (f i5_law_tree))
  a__law_tree : Binds K (fd i5_law_tree) ["_law_hand_here", "_law_names_here", "_law_size_here", "_law_deep"] []
  F__law_nodes : Fun K "_law_nodes" "_law_nodes" s__law_nodes (f i6_law_nodes) (fd i6_law_nodes)
  g__law_nodes : mg "_law_nodes" = some (.ref (f i6_law_nodes))
  a__law_nodes : Binds K (fd i6_law_nodes) ["_law_program_here"] []
  F__law_program : Fun K "_law_program" "_law_program" s__law_program (f i15_law_program) (fd i15_law_program)
  g__law_program : mg "_law_program" = some (.ref (f i15_law_program))
  a__law_program : Binds K (fd i15_law_program) ["_law_hand_here", "_law_most"] []
  F__law_size : Fun K "_law_size" "_law_size" s__law_size (f i14_law_size) (fd i14_law_size)
  g__law_size : mg "_law_size" = some (.ref (f i14_law_size))
  a__law_size : Binds K (fd i14_law_size) ["_law_hand_here"] []
  F__law_listed : Fun K "_law_listed" "_law_listed" s__law_listed (f i23_law_listed) (fd i23_law_listed)
  g__law_listed : mg "_law_listed" = some (.ref (f i23_law_listed))
  a__law_listed : Binds K (fd i23_law_listed) ["_law_program_here"] []
  F__law_odd : Fun K "_law_odd" "_law_odd" s__law_odd (f i8_law_odd) (fd i8_law_odd)
  g__law_odd : mg "_law_odd" = some (.ref (f i8_law_odd))
  a__law_odd : Binds K (fd i8_law_odd) ["_law_hand_here"] []
  F__law_some_programs : Fun K "_law_some_programs" "_law_some_programs" s__law_some_programs (f i25_law_some_programs) (fd i25_law_some_programs)
  g__law_some_programs : mg "_law_some_programs" = some (.ref (f i25_law_some_programs))
  a__law_some_programs : Binds K (fd i25_law_some_programs) ["_law_hand_here", "_law_count"] []
  F__law_raised : Fun K "_law_raised" "_law_raised" s__law_raised (f i436_law_raised) (fd i436_law_raised)
  g__law_raised : mg "_law_raised" = some (.ref (f i436_law_raised))
  a__law_raised : Binds K (fd i436_law_raised) ["_law_call"] []
  F__law_is_number : Fun K "_law_is_number" "_law_is_number" s__law_is_number (f i46_law_is_number) (fd i46_law_is_number)
  g__law_is_number : mg "_law_is_number" = some (.ref (f i46_law_is_number))
  a__law_is_number : Binds K (fd i46_law_is_number) ["_law_thing", "_law_count"] []
  F__law_cut : Fun K "_law_cut" "_law_cut" s__law_cut (f i31_law_cut) (fd i31_law_cut)
  g__law_cut : mg "_law_cut" = some (.ref (f i31_law_cut))
  a__law_cut : Binds K (fd i31_law_cut) ["_law_program_here", "_law_number"] []
  F_law : Fun K "law" "law" s_law (f i448_law) (fd i448_law)
  g_law : mg "law" = some (.ref (f i448_law))
  a_law : Binds K (fd i448_law) ["_law_script"] []
  c_LOOP : ∃ t, mg "LOOP" = some (.str "loop" t)
  c_SEQ : ∃ t, mg "SEQ" = some (.str "seq" t)
  c_BRANCH : ∃ t, mg "BRANCH" = some (.str "branch" t)
  b_tuple : mg "tuple" = none
  b_isinstance : mg "isinstance" = none
  b_int : mg "int" = none
  b_bool : mg "bool" = none
  b_len : mg "len" = none
  c_EMPTY : ∃ a, mg "EMPTY" = some (.ref a) ∧ KTup K (.tup [(.str "seq"), (.tup [])]) (.ref a)
  b_abs : mg "abs" = none
  b_min : mg "min" = none
  b_range : mg "range" = none
  b_sum : mg "sum" = none
  b_max : mg "max" = none
  b_ValueError : mg "ValueError" = none
  b_repr : mg "repr" = none
  b_list : mg "list" = none
section
variable {κ : Kap} {P : Program} {w : World} {K : PySem.W.Frag} {mg : Str → Option Value} {base : Heap} {f : Nat → Addr} {fd : Nat → FuncData} {fx : Nat → Addr} {fdx : Nat → FuncData} {cL pL : Nat → Addr} {T : Nat → Fn} {k : Nat}
theorem okx_NoInstruction (M : Md K mg κ f fd fx fdx cL pL) : FnOk P w K mg base (L2.CX P w) 2 (fx 1) (fdx 1) ["self", "value"] (spX K (κ 1)) :=
  M.xF_NoInstruction.okX scx_NoInstruction (fun vs H Q E h => by obtain ⟨a, v, rfl, _⟩ := h; rfl) fun cdv A outer s H vs Q E hr h => ⟨t_x K "there is no instruction with this number", pss_cons (ps_expr (pe_cinit (by rfl) M.xg_CountError M.xs M.xr M.xv (pa_cons (pv 0) (pa_cons pe_str pa_nil)))) (pss_cons (ps_ost (pv 0) (pv 1)) pss_nil), pure_x vs H Q E h⟩
theorem okx_TooMany (M : Md K mg κ f fd fx fdx cL pL) : FnOk P w K mg base (L2.CX P w) 2 (fx 2) (fdx 2) ["self", "value"] (spX K (κ 2)) :=
  M.xF_TooMany.okX scx_TooMany (fun vs H Q E h => by obtain ⟨a, v, rfl, _⟩ := h; rfl) fun cdv A outer s H vs Q E hr h => ⟨t_x K "there are too many runs to yield them", pss_cons (ps_expr (pe_cinit (by rfl) M.xg_CountError M.xs M.xr M.xv (pa_cons (pv 0) (pa_cons pe_str pa_nil)))) (pss_cons (ps_ost (pv 0) (pv 1)) pss_nil), pure_x vs H Q E h⟩
theorem okx_BadRun (M : Md K mg κ f fd fx fdx cL pL) : FnOk P w K mg base (L2.CX P w) 2 (fx 3) (fdx 3) ["self", "value"] (spX K (κ 3)) :=
  M.xF_BadRun.okX scx_BadRun (fun vs H Q E h => by obtain ⟨a, v, rfl, _⟩ := h; rfl) fun cdv A outer s H vs Q E hr h => ⟨t_x K "this is no run of the program", pss_cons (ps_expr (pe_cinit (by rfl) M.xg_CountError M.xs M.xr M.xv (pa_cons (pv 0) (pa_cons pe_str pa_nil)))) (pss_cons (ps_ost (pv 0) (pv 1)) pss_nil), pure_x vs H Q E h⟩
theorem okx_NoObject (M : Md K mg κ f fd fx fdx cL pL) : FnOk P w K mg base (L2.CX P w) 2 (fx 4) (fdx 4) ["self", "value"] (spX K (κ 4)) :=
  M.xF_NoObject.okX scx_NoObject (fun vs H Q E h => by obtain ⟨a, v, rfl, _⟩ := h; rfl) fun cdv A outer s H vs Q E hr h => ⟨t_x K "no object of the run has this birth", pss_cons (ps_expr (pe_cinit (by rfl) M.xg_CountError M.xs M.xr M.xv (pa_cons (pv 0) (pa_cons pe_str pa_nil)))) (pss_cons (ps_ost (pv 0) (pv 1)) pss_nil), pure_x vs H Q E h⟩
theorem okx_BadNames (M : Md K mg κ f fd fx fdx cL pL) : FnOk P w K mg base (L2.CX P w) 2 (fx 5) (fdx 5) ["self", "value"] (spX K (κ 5)) :=
  M.xF_BadNames.okX scx_BadNames (fun vs H Q E h => by obtain ⟨a, v, rfl, _⟩ := h; rfl) fun cdv A outer s H vs Q E hr h => ⟨t_x K "these are no ascending names of the program", pss_cons (ps_expr (pe_cinit (by rfl) M.xg_CountError M.xs M.xr M.xv (pa_cons (pv 0) (pa_cons pe_str pa_nil)))) (pss_cons (ps_ost (pv 0) (pv 1)) pss_nil), pure_x vs H Q E h⟩
theorem okx_NotUsed (M : Md K mg κ f fd fx fdx cL pL) : FnOk P w K mg base (L2.CX P w) 2 (fx 6) (fdx 6) ["self", "value"] (spX K (κ 6)) :=
  M.xF_NotUsed.okX scx_NotUsed (fun vs H Q E h => by obtain ⟨a, v, rfl, _⟩ := h; rfl) fun cdv A outer s H vs Q E hr h => ⟨t_x K "the last instruction of this run uses no object", pss_cons (ps_expr (pe_cinit (by rfl) M.xg_CountError M.xs M.xr M.xv (pa_cons (pv 0) (pa_cons pe_str pa_nil)))) (pss_cons (ps_ost (pv 0) (pv 1)) pss_nil), pure_x vs H Q E h⟩
theorem okx_BadText (M : Md K mg κ f fd fx fdx cL pL) : FnOk P w K mg base (L2.CX P w) 2 (fx 11) (fdx 11) ["self", "value"] (spX K (κ 11)) :=
  M.xF_BadText.okX scx_BadText (fun vs H Q E h => by obtain ⟨a, v, rfl, _⟩ := h; rfl) fun cdv A outer s H vs Q E hr h => ⟨t_x K "this is no text of a program", pss_cons (ps_expr (pe_cinit (by rfl) M.xg_CountError M.xs M.xr M.xv (pa_cons (pv 0) (pa_cons pe_str pa_nil)))) (pss_cons (ps_ost (pv 0) (pv 1)) pss_nil), pure_x vs H Q E h⟩
theorem thd__law_raised (M : Md K mg κ f fd fx fdx cL pL) (IH : ∀ i ∈ ids, FnD κ P w K mg base (3 * k + 3) (f i) (fd i) (psT i) (T i)) : ThD κ P w K mg base (3 * k + 4) "_law_raised" s__law_raised ["_law_call", "_law_caught", "_law_told", "_law_kinds", "error"] "_law_call" (f i436_law_raised) (mth436_law_raised T) :=
  ⟨fun cdv A outer s H E f9 c9 q9 tl th Q ι0 μ0 cl act htl sr hc hPO => th_body (takes_of rfl rfl rfl rfl) rfl rfl rfl cl.nd rfl rfl rfl rfl rfl rfl M.xp_CountError (by rfl) M.xg_CountError (by decide) (by decide) (Nat.succ_pos _) ⟨_, ps_asg (pe_tup (pa_cons pe_non (pa_cons pe_non pa_nil))) (pg_tup cl.calm (pgs_cons (pg_name (i := 1) cl.nd rfl (Or.inl rfl)) (pgs_cons (pg_name (i := 2) cl.nd rfl (Or.inl rfl)) pgs_nil))), fun D σ H h => ⟨by show 2 ≤ sizeLine; decide, fun p hp => ⟨p, _, rfl, .inl (.inl upd_same), rfl, _, _, rfl, _, _, rfl, rfl, h p _ hp⟩⟩⟩ (fun W pn xe tk => act W pn xe _ _ tk) (DSs.cons (DS.ifs (DT.cmp op_gIs (DE.var 1) DE.non) (DSs.one (DS.ret (DE.tup (DA.cons DE.str (DA.cons (DE.var 2) DA.nil))))) DSs.nil) (DSs.cons (DS.set (i := 3) cl.nd rfl (by first | exact Or.inl rfl | exact Or.inr rfl) (DN.new (DN.lst cl (DA.cons (DE.callB ca_isx (by rfl) M.b_isinstance rfl (DA.cons (DE.var 1) (DA.cons (DE.cname M.xp_NoInstruction (by rfl) M.xg_NoInstruction) DA.nil))) (DA.cons (DE.callB ca_isx (by rfl) M.b_isinstance rfl (DA.cons (DE.var 1) (DA.cons (DE.cname M.xp_BadRun (by rfl) M.xg_BadRun) DA.nil))) (DA.cons (DE.callB ca_isx (by rfl) M.b_isinstance rfl (DA.cons (DE.var 1) (DA.cons (DE.cname M.xp_NoObject (by rfl) M.xg_NoObject) DA.nil))) DA.nil)))))) (DSs.cons (DS.set (i := 3) cl.nd rfl (by first | exact Or.inl rfl | exact Or.inr rfl) (DN.new (DN.cat cl (DE.var 3) (DN.dat (DN.lst cl (DA.cons (DE.callB ca_isx (by rfl) M.b_isinstance rfl (DA.cons (DE.var 1) (DA.cons (DE.cname M.xp_BadNames (by rfl) M.xg_BadNames) DA.nil))) (DA.cons (DE.callB ca_isx (by rfl) M.b_isinstance rfl (DA.cons (DE.var 1) (DA.cons (DE.cname M.xp_NotUsed (by rfl) M.xg_NotUsed) DA.nil))) (DA.cons (DE.callB ca_isx (by rfl) M.b_isinstance rfl (DA.cons (DE.var 1) (DA.cons (DE.cname M.xp_TooMany (by rfl) M.xg_TooMany) DA.nil))) DA.nil)))))))) (DSs.cons (DS.expr (DE.app (DE.var 3) (DE.callB ca_isx (by rfl) M.b_isinstance rfl (DA.cons (DE.var 1) (DA.cons (DE.cname M.xp_BadText (by rfl) M.xg_BadText) DA.nil))))) (DSs.cons (DS.ifs (DW.t (DW.or (DT.cmp (op_gNe cl) (DE.cntB (DE.var 3) DE.bl) DE.int) (DW.or1 (DT.not (DT.truth (DE.callB ca_isx (by rfl) M.b_isinstance rfl (DA.cons (DE.var 1) (DA.cons (DE.tyname (by rfl) M.b_ValueError rfl) DA.nil)))))))) (DSs.one (DS.ret (DE.tup (DA.cons DE.str (DA.cons DE.non DA.nil))))) DSs.nil) (DSs.one (DS.ret (DE.tup (DA.cons (DE.ix ix_gIx (DN.dat (DN.lst cl (DA.cons DE.str (DA.cons DE.str (DA.cons DE.str (DA.cons DE.str (DA.cons DE.str (DA.cons DE.str (DA.cons DE.str DA.nil))))))))) (DE.idxB (DE.var 3) DE.bl)) (DA.cons (DE.val (DE.var 1)) DA.nil)))))))))) htl sr hc hPO⟩
theorem ok_parts_of (M : Md K mg κ f fd fx fdx cL pL) (TB : ∀ i ∈ ([i448_law] : List Nat), LamX.TabB base mg (cL i) (pL i)) (sm : ∃ o, base.get? sysModules = some o) (IH : ∀ i ∈ ids, FnD κ P w K mg base (3 * k + 3) (f i) (fd i) (psT i) (T i)) : FnD κ P w K mg base (3 * k + 5 + 1) (f i19_parts_of) (fd i19_parts_of) ["program"] (fnR 1 1 (m19_parts_of T)) :=
  FnD.of M.F_parts_of sc_parts_of sm fun cdv A outer s H E cl => (DSs.cons (DS.ifs (DT.cmp (op_gEq cl) (DE.ix ix_gIx (DE.var 0) DE.int) (let ⟨_, h⟩ := M.c_LOOP; DE.gstr (by rfl) h)) (DSs.one (DS.ret (DE.sl (DE.var 0) (DO.some DE.int) DO.none))) DSs.nil) (DSs.one (DS.ret (DE.ifx (DT.cmp (op_gIn cl) (DE.ix ix_gIx (DE.var 0) DE.int) (DE.tup (DA.cons (let ⟨_, h⟩ := M.c_SEQ; DE.gstr (by rfl) h) (DA.cons (let ⟨_, h⟩ := M.c_BRANCH; DE.gstr (by rfl) h) DA.nil)))) (DE.ix ix_gIx (DE.var 0) DE.int) (DE.tup DA.nil)))))
theorem ok_instructions (M : Md K mg κ f fd fx fdx cL pL) (TB : ∀ i ∈ ([i448_law] : List Nat), LamX.TabB base mg (cL i) (pL i)) (sm : ∃ o, base.get? sysModules = some o) (IH : ∀ i ∈ ids, FnD κ P w K mg base (3 * k + 3) (f i) (fd i) (psT i) (T i)) : FnD κ P w K mg base (3 * k + 5 + 1) (f i20_instructions) (fd i20_instructions) ["program"] (fnR 3 1 (m20_instructions T)) :=
  FnD.of M.F_instructions sc_instructions sm fun cdv A outer s H E cl => (DSs.cons (DS.ifs (DT.cmp (op_gNotIn cl) (DE.ix ix_gIx (DE.var 0) DE.int) (DE.tup (DA.cons (let ⟨_, h⟩ := M.c_SEQ; DE.gstr (by rfl) h) (DA.cons (let ⟨_, h⟩ := M.c_BRANCH; DE.gstr (by rfl) h) (DA.cons (let ⟨_, h⟩ := M.c_LOOP; DE.gstr (by rfl) h) DA.nil))))) (DSs.one (DS.ret (DE.tup (DA.cons (DE.var 0) DA.nil)))) DSs.nil) (DSs.cons (DS.set (i := 1) cl.nd rfl (by first | exact Or.inl rfl | exact Or.inr rfl) (DN.new (DN.lst cl DA.nil))) (DSs.cons (DS.fr PassesOwn.leaving cl.calm (DI.any (DE.call cl ((IH i19_parts_of (by decide)).mono (by omega)) (by rfl) M.g_parts_of M.F_parts_of.kp M.a_parts_of (DA.cons (DE.var 0) DA.nil))) (DG.name (i := 2) cl.nd rfl (by first | exact Or.inl rfl | exact Or.inr rfl)) (DSs.one (DS.expr (DE.ext (DE.var 1) (DE.call cl ((IH i20_instructions (by decide)).mono (by omega)) (by rfl) M.g_instructions M.F_instructions.kp M.a_instructions (DA.cons (DE.var 2) DA.nil)))))) (DSs.one (DS.ret (DE.callTy ca_tuple (by rfl) M.b_tuple rfl (DA.cons (DE.var 1) DA.nil)))))))
theorem ok_check_number (M : Md K mg κ f fd fx fdx cL pL) (TB : ∀ i ∈ ([i448_law] : List Nat), LamX.TabB base mg (cL i) (pL i)) (sm : ∃ o, base.get? sysModules = some o) (IH : ∀ i ∈ ids, FnD κ P w K mg base (3 * k + 3) (f i) (fd i) (psT i) (T i)) : FnD κ P w K mg base (3 * k + 5 + 1) (f i29_check_number) (fd i29_check_number) ["program", "number"] (fnR 2 2 (m29_check_number T)) :=
  FnD.of M.F_check_number sc_check_number sm fun cdv A outer s H E cl => (DSs.one (DS.ifs (DW.t (DW.or (DT.not (DT.truth (DE.callB ca_isi (by rfl) M.b_isinstance rfl (DA.cons (DE.var 1) (DA.cons (DE.tyname (by rfl) M.b_int rfl) DA.nil))))) (DW.or (DT.truth (DE.callB ca_isi (by rfl) M.b_isinstance rfl (DA.cons (DE.var 1) (DA.cons (DE.tyname (by rfl) M.b_bool rfl) DA.nil)))) (DW.or1 (DT.not (DT.chain op_gLe op_gLt DE.int (DE.var 1) (DE.callB ca_len (by rfl) M.b_len rfl (DA.cons (DE.call cl ((IH i20_instructions (by decide)).mono (by omega)) (by rfl) M.g_instructions M.F_instructions.kp M.a_instructions (DA.cons (DE.var 0) DA.nil)) DA.nil)))))))) (DSs.one (DS.raise M.xk_NoInstruction cl (by omega) M.xo_NoInstruction M.xi_NoInstruction M.xj_NoInstruction (okx_NoInstruction M) M.xa_NoInstruction (by rfl) M.xg_NoInstruction (DA.cons (DE.var 1) DA.nil))) DSs.nil))
theorem ok_cut_from (M : Md K mg κ f fd fx fdx cL pL) (TB : ∀ i ∈ ([i448_law] : List Nat), LamX.TabB base mg (cL i) (pL i)) (sm : ∃ o, base.get? sysModules = some o) (IH : ∀ i ∈ ids, FnD κ P w K mg base (3 * k + 3) (f i) (fd i) (psT i) (T i)) : FnD κ P w K mg base (3 * k + 5 + 1) (f i30_cut_from) (fd i30_cut_from) ["program", "number"] (fnR 5 2 (m30_cut_from T)) :=
  FnD.of M.F_cut_from sc_cut_from sm fun cdv A outer s H E cl => (DSs.cons (DS.set (i := 2) cl.nd rfl (by first | exact Or.inl rfl | exact Or.inr rfl) (DE.callB ca_len (by rfl) M.b_len rfl (DA.cons (DE.call cl ((IH i20_instructions (by decide)).mono (by omega)) (by rfl) M.g_instructions M.F_instructions.kp M.a_instructions (DA.cons (DE.var 0) DA.nil)) DA.nil))) (DSs.cons (DS.ifs (DT.not (DT.chain op_gLe op_gLt DE.int (DE.var 1) (DE.var 2))) (DSs.one (DS.ret (DE.var 0))) DSs.nil) (DSs.cons (DS.ifs (DT.cmp (op_gNotIn cl) (DE.ix ix_gIx (DE.var 0) DE.int) (DE.tup (DA.cons (let ⟨_, h⟩ := M.c_SEQ; DE.gstr (by rfl) h) (DA.cons (let ⟨_, h⟩ := M.c_BRANCH; DE.gstr (by rfl) h) (DA.cons (let ⟨_, h⟩ := M.c_LOOP; DE.gstr (by rfl) h) DA.nil))))) (DSs.one (DS.ret (let ⟨_, h, h2⟩ := M.c_EMPTY; DE.gtup (by rfl) h h2))) DSs.nil) (DSs.cons (DS.ifs (DT.cmp (op_gEq cl) (DE.ix ix_gIx (DE.var 0) DE.int) (let ⟨_, h⟩ := M.c_LOOP; DE.gstr (by rfl) h)) (DSs.one (DS.ret (DE.tup (DA.cons (let ⟨_, h⟩ := M.c_LOOP; DE.gstr (by rfl) h) (DA.cons (DE.call cl ((IH i30_cut_from (by decide)).mono (by omega)) (by rfl) M.g_cut_from M.F_cut_from.kp M.a_cut_from (DA.cons (DE.ix ix_gIx (DE.var 0) DE.int) (DA.cons (DE.var 1) DA.nil))) DA.nil))))) DSs.nil) (DSs.cons (DS.set (i := 3) cl.nd rfl (by first | exact Or.inl rfl | exact Or.inr rfl) (DN.new (DN.lst cl DA.nil))) (DSs.cons (DS.fr PassesOwn.leaving cl.calm (DI.any (DE.ix ix_gIx (DE.var 0) DE.int)) (DG.name (i := 4) cl.nd rfl (by first | exact Or.inl rfl | exact Or.inr rfl)) (DSs.cons (DS.expr (DE.app (DE.var 3) (DE.call cl ((IH i30_cut_from (by decide)).mono (by omega)) (by rfl) M.g_cut_from M.F_cut_from.kp M.a_cut_from (DA.cons (DE.var 4) (DA.cons (DE.var 1) DA.nil))))) (DSs.one (DS.aug (i := 1) cl.nd rfl (by first | exact Or.inl rfl | exact Or.inr rfl) (fun _ => ip_gSub) (DE.callB ca_len (by rfl) M.b_len rfl (DA.cons (DE.call cl ((IH i20_instructions (by decide)).mono (by omega)) (by rfl) M.g_instructions M.F_instructions.kp M.a_instructions (DA.cons (DE.var 4) DA.nil)) DA.nil)))))) (DSs.one (DS.ret (DE.tup (DA.cons (DE.ix ix_gIx (DE.var 0) DE.int) (DA.cons (DE.callTy ca_tuple (by rfl) M.b_tuple rfl (DA.cons (DE.var 3) DA.nil)) DA.nil)))))))))))
theorem ok_left_out (M : Md K mg κ f fd fx fdx cL pL) (TB : ∀ i ∈ ([i448_law] : List Nat), LamX.TabB base mg (cL i) (pL i)) (sm : ∃ o, base.get? sysModules = some o) (IH : ∀ i ∈ ids, FnD κ P w K mg base (3 * k + 3) (f i) (fd i) (psT i) (T i)) : FnD κ P w K mg base (3 * k + 5 + 1) (f i41_left_out) (fd i41_left_out) ["program", "number"] (fnR 2 2 (m41_left_out T)) :=
  FnD.of M.F_left_out sc_left_out sm fun cdv A outer s H E cl => (DSs.cons (DS.expr (DE.call cl ((IH i29_check_number (by decide)).mono (by omega)) (by rfl) M.g_check_number M.F_check_number.kp M.a_check_number (DA.cons (DE.var 0) (DA.cons (DE.var 1) DA.nil)))) (DSs.one (DS.ret (DE.call cl ((IH i30_cut_from (by decide)).mono (by omega)) (by rfl) M.g_cut_from M.F_cut_from.kp M.a_cut_from (DA.cons (DE.var 0) (DA.cons (DE.var 1) DA.nil))))))
theorem ok__law_hand (M : Md K mg κ f fd fx fdx cL pL) (TB : ∀ i ∈ ([i448_law] : List Nat), LamX.TabB base mg (cL i) (pL i)) (sm : ∃ o, base.get? sysModules = some o) (IH : ∀ i ∈ ids, FnD κ P w K mg base (3 * k + 3) (f i) (fd i) (psT i) (T i)) : FnD κ P w K mg base (3 * k + 5 + 1) (f i13_law_hand) (fd i13_law_hand) ["_law_script", "_law_k"] (fnR 4 2 (m13_law_hand T)) :=
  FnD.of M.F__law_hand sc__law_hand sm fun cdv A outer s H E cl => (DSs.cons (DS.set (i := 2) cl.nd rfl (by first | exact Or.inl rfl | exact Or.inr rfl) (DE.ifx (DT.cmp op_gLt (DE.var 1) (DE.callB ca_len (by rfl) M.b_len rfl (DA.cons (DE.var 0) DA.nil))) (DE.ix ix_gIx (DE.var 0) (DE.var 1)) DE.int)) (DSs.cons (DS.set (i := 3) cl.nd rfl (by first | exact Or.inl rfl | exact Or.inr rfl) (DE.op op_gMul (DE.op op_gMod (DE.callB ca_abs (by rfl) M.b_abs rfl (DA.cons (DE.var 2) DA.nil)) (DE.op op_gMul (DE.op op_gMul (DE.op op_gPow DE.int DE.int) (DE.op op_gPow DE.int DE.int)) (DE.op op_gPow DE.int DE.int))) (DE.callTy ca_int (by rfl) M.b_int rfl (DA.cons (DE.cmp op_gGe (DE.callB ca_abs (by rfl) M.b_abs rfl (DA.cons (DE.var 2) DA.nil)) (DE.op op_gPow DE.int DE.int)) DA.nil)))) (DSs.one (DS.ret (DN.new (DN.lst cl (DA.cons (DE.var 3) (DA.cons (DE.op op_gMod (DE.op op_gMul (DE.op op_gAdd (DE.op op_gAdd (DE.op op_gMod (DE.var 2) DE.int) (DE.op op_gMul DE.int (DE.var 1))) DE.int) DE.int) DE.int) (DA.cons DE.int DA.nil)))))))))
theorem ok__law_take (M : Md K mg κ f fd fx fdx cL pL) (TB : ∀ i ∈ ([i448_law] : List Nat), LamX.TabB base mg (cL i) (pL i)) (sm : ∃ o, base.get? sysModules = some o) (IH : ∀ i ∈ ids, FnD κ P w K mg base (3 * k + 3) (f i) (fd i) (psT i) (T i)) : FnD κ P w K mg base (3 * k + 5 + 1) (f i2_law_take) (fd i2_law_take) ["_law_hand_here", "_law_many"] (fnR 5 2 (m2_law_take T)) :=
  FnD.of M.F__law_take sc__law_take sm fun cdv A outer s H E cl => (DSs.cons (DS.ifs (DT.cmp op_gGt (DE.ix ix_gIx (DE.var 0) DE.int) DE.int) (DSs.cons (DS.set (i := 2) cl.nd rfl (by first | exact Or.inl rfl | exact Or.inr rfl) (DE.op op_gMod (DE.ix ix_gIx (DE.var 0) DE.int) (DE.var 1))) (DSs.cons (DS.sub (DE.var 0) DE.int (DE.op op_gDiv (DE.ix ix_gIx (DE.var 0) DE.int) (DE.var 1))) (DSs.one (DS.ret (DE.var 2))))) DSs.nil) (DSs.cons (DS.sub (DE.var 0) DE.int (DE.op op_gAdd (DE.ix ix_gIx (DE.var 0) DE.int) DE.int)) (DSs.cons (DS.set (i := 3) cl.nd rfl (by first | exact Or.inl rfl | exact Or.inr rfl) (DE.ix ix_gIx (DN.dat (DN.lst cl (DA.cons DE.int (DA.cons DE.int (DA.cons DE.int (DA.cons DE.int (DA.cons DE.int DA.nil))))))) (DE.op op_gMod (DE.ix ix_gIx (DE.var 0) DE.int) DE.int))) (DSs.cons (DS.set (i := 4) cl.nd rfl (by first | exact Or.inl rfl | exact Or.inr rfl) (DE.op op_gMod (DE.op op_gPow (DE.op op_gAdd (DE.ix ix_gIx (DE.var 0) DE.int) (DE.op op_gMul DE.int (DE.ix ix_gIx (DE.var 0) DE.int))) DE.int) (DE.var 3))) (DSs.one (DS.ret (DE.op op_gMod (DE.op op_gDiv (DE.op op_gMod (DE.op op_gMul (DE.var 4) (DE.op op_gAdd (DE.op op_gMod (DE.var 4) DE.int) (DE.ix ix_gIx (DE.var 0) DE.int))) (DE.var 3)) DE.int) (DE.var 1))))))))
theorem ok__law_of (M : Md K mg κ f fd fx fdx cL pL) (TB : ∀ i ∈ ([i448_law] : List Nat), LamX.TabB base mg (cL i) (pL i)) (sm : ∃ o, base.get? sysModules = some o) (IH : ∀ i ∈ ids, FnD κ P w K mg base (3 * k + 3) (f i) (fd i) (psT i) (T i)) : FnD κ P w K mg base (3 * k + 5 + 1) (f i3_law_of) (fd i3_law_of) ["_law_hand_here", "_law_some"] (fnR 2 2 (m3_law_of T)) :=
  FnD.of M.F__law_of sc__law_of sm fun cdv A outer s H E cl => (DSs.one (DS.ret (DE.ix ix_gIx (DE.var 1) (DE.call cl ((IH i2_law_take (by decide)).mono (by omega)) (by rfl) M.g__law_take M.F__law_take.kp M.a__law_take (DA.cons (DE.var 0) (DA.cons (DE.callB ca_len (by rfl) M.b_len rfl (DA.cons (DE.var 1) DA.nil)) DA.nil))))))
theorem ok__law_names (M : Md K mg κ f fd fx fdx cL pL) (TB : ∀ i ∈ ([i448_law] : List Nat), LamX.TabB base mg (cL i) (pL i)) (sm : ∃ o, base.get? sysModules = some o) (IH : ∀ i ∈ ids, FnD κ P w K mg base (3 * k + 3) (f i) (fd i) (psT i) (T i)) : FnD κ P w K mg base (3 * k + 5 + 1) (f i7_law_names) (fd i7_law_names) ["_law_hand_here", "_law_count"] (fnR 3 2 (m7_law_names T)) :=
  FnD.of M.F__law_names sc__law_names sm fun cdv A outer s H E cl => (DSs.cons (DS.set (i := 2) cl.nd rfl (by first | exact Or.inl rfl | exact Or.inr rfl) (DN.new (DN.lst cl (DA.cons DE.str (DA.cons DE.str (DA.cons DE.str (DA.cons DE.str (DA.cons DE.str (DA.cons DE.str (DA.cons DE.str (DA.cons DE.str (DA.cons DE.str (DA.cons DE.str DA.nil))))))))))))) (DSs.cons (DS.whl PassesOwn.leaving (DT.cmp op_gGt (DE.callB ca_len (by rfl) M.b_len rfl (DA.cons (DE.var 2) DA.nil)) (DE.var 1)) (DSs.one (DS.expr (DE.pop1 (DE.var 2) (DE.call cl ((IH i2_law_take (by decide)).mono (by omega)) (by rfl) M.g__law_take M.F__law_take.kp M.a__law_take (DA.cons (DE.var 0) (DA.cons (DE.callB ca_len (by rfl) M.b_len rfl (DA.cons (DE.var 2) DA.nil)) DA.nil))))))) (DSs.one (DS.ret (DE.var 2)))))
theorem ok__law_instruction (M : Md K mg κ f fd fx fdx cL pL) (TB : ∀ i ∈ ([i448_law] : List Nat), LamX.TabB base mg (cL i) (pL i)) (sm : ∃ o, base.get? sysModules = some o) (IH : ∀ i ∈ ids, FnD κ P w K mg base (3 * k + 3) (f i) (fd i) (psT i) (T i)) : FnD κ P w K mg base (3 * k + 5 + 1) (f i4_law_instruction) (fd i4_law_instruction) ["_law_hand_here", "_law_names_here"] (fnR 4 2 (m4_law_instruction T)) :=
  FnD.of M.F__law_instruction sc__law_instruction sm fun cdv A outer s H E cl => (DSs.cons (by first | exact (DS.par2 (i := 2) (j := 3) cl.calm cl.nd rfl rfl (by decide) rfl rfl (DA.cons (DE.call cl ((IH i2_law_take (by decide)).mono (by omega)) (by rfl) M.g__law_take M.F__law_take.kp M.a__law_take (DA.cons (DE.var 0) (DA.cons DE.int DA.nil))) (DA.cons (DE.call cl ((IH i3_law_of (by decide)).mono (by omega)) (by rfl) M.g__law_of M.F__law_of.kp M.a__law_of (DA.cons (DE.var 0) (DA.cons (DE.var 1) DA.nil))) DA.nil)) rfl) | exact (DS.parG cl.calm (DA.cons (DE.call cl ((IH i2_law_take (by decide)).mono (by omega)) (by rfl) M.g__law_take M.F__law_take.kp M.a__law_take (DA.cons (DE.var 0) (DA.cons DE.int DA.nil))) (DA.cons (DE.call cl ((IH i3_law_of (by decide)).mono (by omega)) (by rfl) M.g__law_of M.F__law_of.kp M.a__law_of (DA.cons (DE.var 0) (DA.cons (DE.var 1) DA.nil))) DA.nil)) (DGs.cons (DG.name (i := 2) cl.nd rfl (by first | exact Or.inl rfl | exact Or.inr rfl)) (DGs.cons (DG.name (i := 3) cl.nd rfl (by first | exact Or.inl rfl | exact Or.inr rfl)) DGs.nil)) (gl1 (gl1 gl0)))) (DSs.cons (DS.ifs (DT.cmp op_gLt (DE.var 2) DE.int) (DSs.one (DS.ret (DE.tup (DA.cons DE.str (DA.cons (DE.var 3) DA.nil))))) DSs.nil) (DSs.cons (DS.ifs (DT.cmp op_gLt (DE.var 2) DE.int) (DSs.one (DS.ret (DE.tup (DA.cons DE.str (DA.cons (DE.call cl ((IH i3_law_of (by decide)).mono (by omega)) (by rfl) M.g__law_of M.F__law_of.kp M.a__law_of (DA.cons (DE.var 0) (DA.cons (DE.var 1) DA.nil))) (DA.cons (DE.var 3) DA.nil)))))) DSs.nil) (DSs.one (DS.ret (DE.ifx (DT.cmp op_gLt (DE.var 2) DE.int) (DE.tup (DA.cons DE.str (DA.cons (DE.var 3) DA.nil))) (DE.tup (DA.cons DE.str (DA.cons (DE.var 3) DA.nil)))))))))
theorem ok__law_tree (M : Md K mg κ f fd fx fdx cL pL) (TB : ∀ i ∈ ([i448_law] : List Nat), LamX.TabB base mg (cL i) (pL i)) (sm : ∃ o, base.get? sysModules = some o) (IH : ∀ i ∈ ids, FnD κ P w K mg base (3 * k + 3) (f i) (fd i) (psT i) (T i)) : FnD κ P w K mg base (3 * k + 5 + 1) (f i5_law_tree) (fd i5_law_tree) ["_law_hand_here", "_law_names_here", "_law_size_here", "_law_deep"] (fnR 9 4 (m5_law_tree T)) :=
  FnD.of M.F__law_tree sc__law_tree sm fun cdv A outer s H E cl => (DSs.cons (DS.set (i := 4) cl.nd rfl (by first | exact Or.inl rfl | exact Or.inr rfl) (DE.call cl ((IH i2_law_take (by decide)).mono (by omega)) (by rfl) M.g__law_take M.F__law_take.kp M.a__law_take (DA.cons (DE.var 0) (DA.cons DE.int DA.nil)))) (DSs.cons (DS.ifs (DW.t (DW.or (DT.cmp op_gLt (DE.var 2) DE.int) (DW.or (DT.cmp op_gLt (DE.var 3) DE.int) (DW.or1 (DT.cmp (op_gEq cl) (DE.var 4) DE.int))))) (DSs.one (DS.ret (DE.call cl ((IH i4_law_instruction (by decide)).mono (by omega)) (by rfl) M.g__law_instruction M.F__law_instruction.kp M.a__law_instruction (DA.cons (DE.var 0) (DA.cons (DE.var 1) DA.nil))))) DSs.nil) (DSs.cons (DS.ifs (DT.cmp (op_gEq cl) (DE.var 4) DE.int) (DSs.one (DS.ret (DE.tup (DA.cons DE.str (DA.cons (DE.call cl ((IH i5_law_tree (by decide)).mono (by omega)) (by rfl) M.g__law_tree M.F__law_tree.kp M.a__law_tree (DA.cons (DE.var 0) (DA.cons (DE.var 1) (DA.cons (DE.var 2) (DA.cons (DE.op op_gSub (DE.var 3) DE.int) DA.nil))))) DA.nil))))) DSs.nil) (DSs.cons (DS.set (i := 5) cl.nd rfl (by first | exact Or.inl rfl | exact Or.inr rfl) (DE.callB (ca_min cl) (by rfl) M.b_min rfl (DA.cons (DE.var 2) (DA.cons (DE.call cl ((IH i3_law_of (by decide)).mono (by omega)) (by rfl) M.g__law_of M.F__law_of.kp M.a__law_of (DA.cons (DE.var 0) (DA.cons (DN.dat (DN.lst cl (DA.cons DE.int (DA.cons DE.int (DA.cons DE.int (DA.cons DE.int (DA.cons DE.int (DA.cons DE.int (DA.cons (DE.ifx (DT.cmp op_gGt (DE.var 4) DE.int) DE.int DE.int) DA.nil))))))))) DA.nil))) DA.nil)))) (DSs.cons (DS.set (i := 6) cl.nd rfl (by first | exact Or.inl rfl | exact Or.inr rfl) (DE.callTy ca_tuple (by rfl) M.b_tuple rfl (DA.cons (DN.dat (DN.lcc (own := [("_law_part", 8)]) cl (DI.rng1 (by rfl) M.b_range (DA.cons (DE.var 5) DA.nil)) (blkOk_by (by rfl)) (fun _ h => h) (fun s H D d fp cl1 => (DG.name (i := 8) cl1.nd rfl (by first | exact Or.inl rfl | exact Or.inr rfl))) (fun s H D d fp cl1 => lc_all) (fun s H D d fp cl1 => (DE.call cl1 ((IH i5_law_tree (by decide)).mono (by omega)) (by rfl) M.g__law_tree M.F__law_tree.kp M.a__law_tree (DA.cons (DE.var 0) (DA.cons (DE.var 1) (DA.cons (DE.op op_gDiv (DE.var 2) (DE.var 5)) (DA.cons (DE.op op_gSub (DE.var 3) DE.int) DA.nil)))))))) DA.nil))) (DSs.cons (DS.ifs (DT.cmp op_gLt (DE.var 4) DE.int) (DSs.cons (DS.set (i := 7) cl.nd rfl (by first | exact Or.inl rfl | exact Or.inr rfl) (DE.op op_gMul (DE.tup (DA.cons (DE.tup (DA.cons DE.str (DA.cons (DE.tup DA.nil) DA.nil))) DA.nil)) (DE.callTy ca_int (by rfl) M.b_int rfl (DA.cons (DE.cmp (op_gEq cl) (DE.call cl ((IH i2_law_take (by decide)).mono (by omega)) (by rfl) M.g__law_take M.F__law_take.kp M.a__law_take (DA.cons (DE.var 0) (DA.cons DE.int DA.nil))) DE.int) DA.nil)))) (DSs.one (DS.ret (DE.tup (DA.cons DE.str (DA.cons (DE.op op_gAdd (DE.var 6) (DE.var 7)) DA.nil)))))) DSs.nil) (DSs.one (DS.ret (DE.tup (DA.cons DE.str (DA.cons (DE.var 6) DA.nil)))))))))))
theorem ok__law_nodes (M : Md K mg κ f fd fx fdx cL pL) (TB : ∀ i ∈ ([i448_law] : List Nat), LamX.TabB base mg (cL i) (pL i)) (sm : ∃ o, base.get? sysModules = some o) (IH : ∀ i ∈ ids, FnD κ P w K mg base (3 * k + 3) (f i) (fd i) (psT i) (T i)) : FnD κ P w K mg base (3 * k + 5 + 1) (f i6_law_nodes) (fd i6_law_nodes) ["_law_program_here"] (fnR 2 1 (m6_law_nodes T)) :=
  FnD.of M.F__law_nodes sc__law_nodes sm fun cdv A outer s H E cl => (DSs.cons (DS.ifs (DT.cmp (op_gEq cl) (DE.ix ix_gIx (DE.var 0) DE.int) DE.str) (DSs.one (DS.ret (DE.op op_gAdd DE.int (DE.call cl ((IH i6_law_nodes (by decide)).mono (by omega)) (by rfl) M.g__law_nodes M.F__law_nodes.kp M.a__law_nodes (DA.cons (DE.ix ix_gIx (DE.var 0) DE.int) DA.nil))))) DSs.nil) (DSs.cons (DS.ifs (DT.cmp (op_gIn cl) (DE.ix ix_gIx (DE.var 0) DE.int) (DE.tup (DA.cons DE.str (DA.cons DE.str DA.nil)))) (DSs.one (DS.ret (DE.op op_gAdd DE.int (DE.callB (ca_sum cl) (by rfl) M.b_sum rfl (DA.cons (DN.dat (DN.lcc (own := [("_law_part", 1)]) cl (DI.any (DE.ix ix_gIx (DE.var 0) DE.int)) (blkOk_by (by rfl)) (fun _ h => h) (fun s H D d fp cl1 => (DG.name (i := 1) cl1.nd rfl (by first | exact Or.inl rfl | exact Or.inr rfl))) (fun s H D d fp cl1 => lc_all) (fun s H D d fp cl1 => (DE.call cl1 ((IH i6_law_nodes (by decide)).mono (by omega)) (by rfl) M.g__law_nodes M.F__law_nodes.kp M.a__law_nodes (DA.cons (DE.var 1) DA.nil))))) DA.nil))))) DSs.nil) (DSs.one (DS.ret DE.int))))
theorem ok__law_program (M : Md K mg κ f fd fx fdx cL pL) (TB : ∀ i ∈ ([i448_law] : List Nat), LamX.TabB base mg (cL i) (pL i)) (sm : ∃ o, base.get? sysModules = some o) (IH : ∀ i ∈ ids, FnD κ P w K mg base (3 * k + 3) (f i) (fd i) (psT i) (T i)) : FnD κ P w K mg base (3 * k + 5 + 1) (f i15_law_program) (fd i15_law_program) ["_law_hand_here", "_law_most"] (fnR 8 2 (m15_law_program T)) :=
  FnD.of M.F__law_program sc__law_program sm fun cdv A outer s H E cl => (DSs.cons (DS.set (i := 2) cl.nd rfl (by first | exact Or.inl rfl | exact Or.inr rfl) (DE.call cl ((IH i7_law_names (by decide)).mono (by omega)) (by rfl) M.g__law_names M.F__law_names.kp M.a__law_names (DA.cons (DE.var 0) (DA.cons (DE.call cl ((IH i3_law_of (by decide)).mono (by omega)) (by rfl) M.g__law_of M.F__law_of.kp M.a__law_of (DA.cons (DE.var 0) (DA.cons (DN.dat (DN.lst cl (DA.cons DE.int (DA.cons DE.int (DA.cons DE.int (DA.cons DE.int (DA.cons DE.int (DA.cons DE.int (DA.cons DE.int (DA.cons DE.int (DA.cons DE.int (DA.cons DE.int DA.nil)))))))))))) DA.nil))) DA.nil)))) (DSs.cons (DS.set (i := 3) cl.nd rfl (by first | exact Or.inl rfl | exact Or.inr rfl) (DE.call cl ((IH i5_law_tree (by decide)).mono (by omega)) (by rfl) M.g__law_tree M.F__law_tree.kp M.a__law_tree (DA.cons (DE.var 0) (DA.cons (DE.var 2) (DA.cons (DE.callB (ca_max cl) (by rfl) M.b_max rfl (DA.cons DE.int (DA.cons (DE.op op_gSub (DE.var 1) DE.int) DA.nil))) (DA.cons (DE.call cl ((IH i3_law_of (by decide)).mono (by omega)) (by rfl) M.g__law_of M.F__law_of.kp M.a__law_of (DA.cons (DE.var 0) (DA.cons (DN.dat (DN.lst cl (DA.cons DE.int (DA.cons DE.int (DA.cons DE.int (DA.cons DE.int DA.nil)))))) DA.nil))) DA.nil)))))) (DSs.cons (DS.set (i := 4) cl.nd rfl (by first | exact Or.inl rfl | exact Or.inr rfl) (DE.tup (DA.cons (DE.tup (DA.cons DE.str (DA.cons (DE.call cl ((IH i3_law_of (by decide)).mono (by omega)) (by rfl) M.g__law_of M.F__law_of.kp M.a__law_of (DA.cons (DE.var 0) (DA.cons (DE.var 2) DA.nil))) DA.nil))) (DA.cons (DE.tup (DA.cons DE.str (DA.cons (DE.call cl ((IH i3_law_of (by decide)).mono (by omega)) (by rfl) M.g__law_of M.F__law_of.kp M.a__law_of (DA.cons (DE.var 0) (DA.cons (DE.var 2) DA.nil))) (DA.cons (DE.call cl ((IH i3_law_of (by decide)).mono (by omega)) (by rfl) M.g__law_of M.F__law_of.kp M.a__law_of (DA.cons (DE.var 0) (DA.cons (DE.var 2) DA.nil))) DA.nil)))) DA.nil)))) (DSs.cons (DS.set (i := 5) cl.nd rfl (by first | exact Or.inl rfl | exact Or.inr rfl) (DE.callTy ca_tuple (by rfl) M.b_tuple rfl (DA.cons (DN.dat (DN.lcc (own := [("_law_turn", 7)]) cl (DI.rng1 (by rfl) M.b_range (DA.cons DE.int DA.nil)) (blkOk_by (by rfl)) (fun _ h => h) (fun s H D d fp cl1 => (DG.name (i := 7) cl1.nd rfl (by first | exact Or.inl rfl | exact Or.inr rfl))) (fun s H D d fp cl1 => lc_all) (fun s H D d fp cl1 => (DE.tup (DA.cons DE.str (DA.cons (DE.call cl1 ((IH i3_law_of (by decide)).mono (by omega)) (by rfl) M.g__law_of M.F__law_of.kp M.a__law_of (DA.cons (DE.var 0) (DA.cons (DE.var 2) DA.nil))) DA.nil)))))) DA.nil))) (DSs.cons (DS.set (i := 6) cl.nd rfl (by first | exact Or.inl rfl | exact Or.inr rfl) (DE.tup (DA.cons DE.str (DA.cons (DE.op op_gAdd (DE.op op_gAdd (DE.sl (DE.var 4) DO.none (DO.some (DE.op op_gAdd DE.int (DE.call cl ((IH i2_law_take (by decide)).mono (by omega)) (by rfl) M.g__law_take M.F__law_take.kp M.a__law_take (DA.cons (DE.var 0) (DA.cons DE.int DA.nil)))))) (DE.tup (DA.cons (DE.var 3) DA.nil))) (DE.var 5)) DA.nil)))) (DSs.cons (DS.ifs (DT.cmp op_gGt (DE.call cl ((IH i6_law_nodes (by decide)).mono (by omega)) (by rfl) M.g__law_nodes M.F__law_nodes.kp M.a__law_nodes (DA.cons (DE.var 6) DA.nil)) DE.int) (DSs.one (DS.set (i := 6) cl.nd rfl (by first | exact Or.inl rfl | exact Or.inr rfl) (DE.tup (DA.cons DE.str (DA.cons (DE.op op_gAdd (DE.var 4) (DE.var 5)) DA.nil))))) DSs.nil) (DSs.one (DS.ret (DE.ifx (DW.t (DW.or (DT.cmp op_gGt (DE.call cl ((IH i2_law_take (by decide)).mono (by omega)) (by rfl) M.g__law_take M.F__law_take.kp M.a__law_take (DA.cons (DE.var 0) (DA.cons DE.int DA.nil))) DE.int) (DW.or1 (DT.cmp op_gGt (DE.call cl ((IH i6_law_nodes (by decide)).mono (by omega)) (by rfl) M.g__law_nodes M.F__law_nodes.kp M.a__law_nodes (DA.cons (DE.var 3) DA.nil)) DE.int)))) (DE.var 6) (DE.var 3))))))))))
theorem ok__law_size (M : Md K mg κ f fd fx fdx cL pL) (TB : ∀ i ∈ ([i448_law] : List Nat), LamX.TabB base mg (cL i) (pL i)) (sm : ∃ o, base.get? sysModules = some o) (IH : ∀ i ∈ ids, FnD κ P w K mg base (3 * k + 3) (f i) (fd i) (psT i) (T i)) : FnD κ P w K mg base (3 * k + 5 + 1) (f i14_law_size) (fd i14_law_size) ["_law_hand_here"] (fnR 1 1 (m14_law_size T)) :=
  FnD.of M.F__law_size sc__law_size sm fun cdv A outer s H E cl => (DSs.one (DS.ret (DE.call cl ((IH i3_law_of (by decide)).mono (by omega)) (by rfl) M.g__law_of M.F__law_of.kp M.a__law_of (DA.cons (DE.var 0) (DA.cons (DN.dat (DN.lst cl (DA.cons DE.int (DA.cons DE.int (DA.cons DE.int (DA.cons DE.int (DA.cons DE.int (DA.cons DE.int (DA.cons DE.int (DA.cons DE.int (DA.cons DE.int (DA.cons DE.int DA.nil)))))))))))) DA.nil)))))
theorem ok__law_listed (M : Md K mg κ f fd fx fdx cL pL) (TB : ∀ i ∈ ([i448_law] : List Nat), LamX.TabB base mg (cL i) (pL i)) (sm : ∃ o, base.get? sysModules = some o) (IH : ∀ i ∈ ids, FnD κ P w K mg base (3 * k + 3) (f i) (fd i) (psT i) (T i)) : FnD κ P w K mg base (3 * k + 5 + 1) (f i23_law_listed) (fd i23_law_listed) ["_law_program_here"] (fnR 3 1 (m23_law_listed T)) :=
  FnD.of M.F__law_listed sc__law_listed sm fun cdv A outer s H E cl => (DSs.cons (DS.ifs (DT.cmp (op_gEq cl) (DE.ix ix_gIx (DE.var 0) DE.int) DE.str) (DSs.one (DS.ret (DE.call cl ((IH i23_law_listed (by decide)).mono (by omega)) (by rfl) M.g__law_listed M.F__law_listed.kp M.a__law_listed (DA.cons (DE.ix ix_gIx (DE.var 0) DE.int) DA.nil)))) DSs.nil) (DSs.cons (DS.ifs (DT.cmp (op_gIn cl) (DE.ix ix_gIx (DE.var 0) DE.int) (DE.tup (DA.cons DE.str (DA.cons DE.str DA.nil)))) (DSs.cons (DS.set (i := 1) cl.nd rfl (by first | exact Or.inl rfl | exact Or.inr rfl) (DN.dat (DN.lst cl DA.nil))) (DSs.cons (DS.fr PassesOwn.leaving cl.calm (DI.any (DE.ix ix_gIx (DE.var 0) DE.int)) (DG.name (i := 2) cl.nd rfl (by first | exact Or.inl rfl | exact Or.inr rfl)) (DSs.one (DS.set (i := 1) cl.nd rfl (by first | exact Or.inl rfl | exact Or.inr rfl) (DN.dat (DN.cat cl (DE.var 1) (DE.call cl ((IH i23_law_listed (by decide)).mono (by omega)) (by rfl) M.g__law_listed M.F__law_listed.kp M.a__law_listed (DA.cons (DE.var 2) DA.nil))))))) (DSs.one (DS.ret (DE.var 1))))) DSs.nil) (DSs.one (DS.ret (DN.dat (DN.lst cl (DA.cons (DE.var 0) DA.nil)))))))
theorem ok__law_odd (M : Md K mg κ f fd fx fdx cL pL) (TB : ∀ i ∈ ([i448_law] : List Nat), LamX.TabB base mg (cL i) (pL i)) (sm : ∃ o, base.get? sysModules = some o) (IH : ∀ i ∈ ids, FnD κ P w K mg base (3 * k + 3) (f i) (fd i) (psT i) (T i)) : FnD κ P w K mg base (3 * k + 5 + 1) (f i8_law_odd) (fd i8_law_odd) ["_law_hand_here"] (fnR 4 1 (m8_law_odd T)) :=
  FnD.of M.F__law_odd sc__law_odd sm fun cdv A outer s H E cl => (DSs.cons (DS.set (i := 1) cl.nd rfl (by first | exact Or.inl rfl | exact Or.inr rfl) (DN.dat (DN.lst cl (DA.cons DE.non (DA.cons DE.bl (DA.cons DE.bl (DA.cons DE.int (DA.cons DE.int (DA.cons (DE.neg DE.int) (DA.cons DE.int (DA.cons (DE.op op_gPow DE.int DE.int) (DA.cons DE.str (DA.cons DE.str (DA.cons DE.str (DA.cons DE.str (DA.cons DE.str (DA.cons DE.str (DA.cons DE.str (DA.cons DE.str DA.nil))))))))))))))))))) (DSs.cons (DS.set (i := 1) cl.nd rfl (by first | exact Or.inl rfl | exact Or.inr rfl) (DN.dat (DN.cat cl (DE.var 1) (DN.dat (DN.lst cl (DA.cons (DE.tup DA.nil) (DA.cons (DN.dat (DN.lst cl DA.nil)) (DA.cons (DE.dic0 cl) (DA.cons (DE.tup (DA.cons DE.str DA.nil)) (DA.cons (DE.tup (DA.cons DE.str DA.nil)) (DA.cons (DE.tup (DA.cons DE.str DA.nil)) (DA.cons (DE.tup (DA.cons DE.str (DA.cons DE.str DA.nil))) (DA.cons (DN.dat (DN.lst cl (DA.cons DE.str (DA.cons DE.str DA.nil)))) (DA.cons (DE.dic (DP.cons DE.str (DE.tup DA.nil) DP.nil)) DA.nil)))))))))))))) (DSs.cons (DS.set (i := 1) cl.nd rfl (by first | exact Or.inl rfl | exact Or.inr rfl) (DN.dat (DN.cat cl (DE.var 1) (DN.dat (DN.lst cl (DA.cons (DE.tup (DA.cons DE.str (DA.cons (DE.tup DA.nil) DA.nil))) (DA.cons (DE.tup (DA.cons (DE.tup DA.nil) DA.nil)) (DA.cons (DE.tup (DA.cons DE.int DA.nil)) DA.nil)))))))) (DSs.cons (DS.set (i := 2) cl.nd rfl (by first | exact Or.inl rfl | exact Or.inr rfl) (DE.call cl ((IH i3_law_of (by decide)).mono (by omega)) (by rfl) M.g__law_of M.F__law_of.kp M.a__law_of (DA.cons (DE.var 0) (DA.cons (DE.var 1) DA.nil)))) (DSs.cons (DS.fr PassesOwn.leaving cl.calm (DI.rng1 (by rfl) M.b_range (DA.cons (DE.call cl ((IH i3_law_of (by decide)).mono (by omega)) (by rfl) M.g__law_of M.F__law_of.kp M.a__law_of (DA.cons (DE.var 0) (DA.cons (DN.dat (DN.lst cl (DA.cons DE.int (DA.cons DE.int (DA.cons DE.int (DA.cons DE.int (DA.cons DE.int (DA.cons DE.int DA.nil)))))))) DA.nil))) DA.nil)) (DG.name (i := 3) cl.nd rfl (by first | exact Or.inl rfl | exact Or.inr rfl)) (DSs.one (DS.set (i := 2) cl.nd rfl (by first | exact Or.inl rfl | exact Or.inr rfl) (DE.call cl ((IH i3_law_of (by decide)).mono (by omega)) (by rfl) M.g__law_of M.F__law_of.kp M.a__law_of (DA.cons (DE.var 0) (DA.cons (DN.dat (DN.lst cl (DA.cons (DE.tup (DA.cons (DE.var 2) DA.nil)) (DA.cons (DN.dat (DN.lst cl (DA.cons (DE.var 2) DA.nil))) (DA.cons (DE.dic (DP.cons DE.str (DE.var 2) DP.nil)) DA.nil))))) DA.nil)))))) (DSs.one (DS.ret (DE.var 2))))))))
theorem ok__law_some_programs (M : Md K mg κ f fd fx fdx cL pL) (TB : ∀ i ∈ ([i448_law] : List Nat), LamX.TabB base mg (cL i) (pL i)) (sm : ∃ o, base.get? sysModules = some o) (IH : ∀ i ∈ ids, FnD κ P w K mg base (3 * k + 3) (f i) (fd i) (psT i) (T i)) : FnD κ P w K mg base (3 * k + 5 + 1) (f i25_law_some_programs) (fd i25_law_some_programs) ["_law_hand_here", "_law_count"] (fnR 6 2 (m25_law_some_programs T)) :=
  FnD.of M.F__law_some_programs sc__law_some_programs sm fun cdv A outer s H E cl => (DSs.cons (DS.setLcN (i := 2) (own := [("_law_turn", 5)]) cl rfl rfl rfl (DI.rng1 (by rfl) M.b_range (DA.cons (DE.var 1) DA.nil)) (blkOk_by (by rfl)) (fun _ h => h) (fun s H D d fp cl1 => (DG.name (i := 5) cl1.nd rfl (by first | exact Or.inl rfl | exact Or.inr rfl))) (fun s H D d fp cl1 => lc_all) (fun s H D d fp cl1 => (DE.call cl1 ((IH i15_law_program (by decide)).mono (by omega)) (by rfl) M.g__law_program M.F__law_program.kp M.a__law_program (DA.cons (DE.var 0) (DA.cons (DE.call cl1 ((IH i14_law_size (by decide)).mono (by omega)) (by rfl) M.g__law_size M.F__law_size.kp M.a__law_size (DA.cons (DE.var 0) DA.nil)) DA.nil))))) (DSs.cons (DS.expr (DE.app (DE.var 2) (DE.call cl ((IH i4_law_instruction (by decide)).mono (by omega)) (by rfl) M.g__law_instruction M.F__law_instruction.kp M.a__law_instruction (DA.cons (DE.var 0) (DA.cons (DE.call cl ((IH i7_law_names (by decide)).mono (by omega)) (by rfl) M.g__law_names M.F__law_names.kp M.a__law_names (DA.cons (DE.var 0) (DA.cons DE.int DA.nil))) DA.nil))))) (DSs.cons (DS.set (i := 3) cl.nd rfl (by first | exact Or.inl rfl | exact Or.inr rfl) (DE.tup (DA.cons DE.str (DA.cons (DE.tup DA.nil) DA.nil)))) (DSs.cons (DS.set (i := 4) cl.nd rfl (by first | exact Or.inl rfl | exact Or.inr rfl) (DN.dat (DN.lst cl (DA.cons (DE.var 3) (DA.cons (DE.tup (DA.cons DE.str (DA.cons (DE.var 3) DA.nil))) (DA.cons (DE.tup (DA.cons DE.str (DA.cons (DE.tup (DA.cons (DE.var 3) (DA.cons (DE.var 3) DA.nil))) DA.nil))) (DA.cons (DE.tup (DA.cons DE.str (DA.cons (DE.tup (DA.cons (DE.var 3) (DA.cons (DE.tup (DA.cons DE.str (DA.cons (DE.tup (DA.cons DE.str (DA.cons DE.str DA.nil))) DA.nil))) DA.nil))) DA.nil))) DA.nil))))))) (DSs.one (DS.ret (DN.dat (DN.cat cl (DE.var 2) (DN.dat (DN.lst cl (DA.cons (DE.call cl ((IH i3_law_of (by decide)).mono (by omega)) (by rfl) M.g__law_of M.F__law_of.kp M.a__law_of (DA.cons (DE.var 0) (DA.cons (DE.var 4) DA.nil))) DA.nil)))))))))))
theorem ok__law_is_number (M : Md K mg κ f fd fx fdx cL pL) (TB : ∀ i ∈ ([i448_law] : List Nat), LamX.TabB base mg (cL i) (pL i)) (sm : ∃ o, base.get? sysModules = some o) (IH : ∀ i ∈ ids, FnD κ P w K mg base (3 * k + 3) (f i) (fd i) (psT i) (T i)) : FnD κ P w K mg base (3 * k + 5 + 1) (f i46_law_is_number) (fd i46_law_is_number) ["_law_thing", "_law_count"] (fnR 2 2 (m46_law_is_number T)) :=
  FnD.of M.F__law_is_number sc__law_is_number sm fun cdv A outer s H E cl => (DSs.one (DS.ret (DE.and (DE.callB ca_isi (by rfl) M.b_isinstance rfl (DA.cons (DE.var 0) (DA.cons (DE.tyname (by rfl) M.b_int rfl) DA.nil))) (DE.and (DE.not (DE.callB ca_isi (by rfl) M.b_isinstance rfl (DA.cons (DE.var 0) (DA.cons (DE.tyname (by rfl) M.b_bool rfl) DA.nil)))) (DE.one (DE.chain op_gLe op_gLt DE.int (DE.var 0) (DE.var 1)))))))
theorem ok__law_cut (M : Md K mg κ f fd fx fdx cL pL) (TB : ∀ i ∈ ([i448_law] : List Nat), LamX.TabB base mg (cL i) (pL i)) (sm : ∃ o, base.get? sysModules = some o) (IH : ∀ i ∈ ids, FnD κ P w K mg base (3 * k + 3) (f i) (fd i) (psT i) (T i)) : FnD κ P w K mg base (3 * k + 5 + 1) (f i31_law_cut) (fd i31_law_cut) ["_law_program_here", "_law_number"] (fnR 8 2 (m31_law_cut T)) :=
  FnD.of M.F__law_cut sc__law_cut sm fun cdv A outer s H E cl => (DSs.cons (DS.ifs (DT.cmp (op_gEq cl) (DE.ix ix_gIx (DE.var 0) DE.int) DE.str) (DSs.cons (DS.asg (DE.call cl ((IH i31_law_cut (by decide)).mono (by omega)) (by rfl) M.g__law_cut M.F__law_cut.kp M.a__law_cut (DA.cons (DE.ix ix_gIx (DE.var 0) DE.int) (DA.cons (DE.var 1) DA.nil))) (DG.tup cl.calm (DGs.cons (DG.name (i := 2) cl.nd rfl (by first | exact Or.inl rfl | exact Or.inr rfl)) (DGs.cons (DG.name (i := 3) cl.nd rfl (by first | exact Or.inl rfl | exact Or.inr rfl)) DGs.nil)) (gl1 (gl1 gl0)))) (DSs.one (DS.ret (DE.tup (DA.cons (DE.tup (DA.cons DE.str (DA.cons (DE.var 2) DA.nil))) (DA.cons (DE.var 3) DA.nil)))))) DSs.nil) (DSs.cons (DS.ifs (DT.cmp (op_gNotIn cl) (DE.ix ix_gIx (DE.var 0) DE.int) (DE.tup (DA.cons DE.str (DA.cons DE.str DA.nil)))) (DSs.one (DS.ret (DE.tup (DA.cons (DE.ifx (DT.cmp (op_gEq cl) (DE.var 1) DE.int) (DE.tup (DA.cons DE.str (DA.cons (DE.tup DA.nil) DA.nil))) (DE.var 0)) (DA.cons DE.int DA.nil))))) DSs.nil) (DSs.cons (by first | exact (DS.par2 (i := 4) (j := 3) cl.calm cl.nd rfl rfl (by decide) rfl rfl (DA.cons (DN.new (DN.lst cl DA.nil)) (DA.cons DE.int DA.nil)) rfl) | exact (DS.parG cl.calm (DA.cons (DN.new (DN.lst cl DA.nil)) (DA.cons DE.int DA.nil)) (DGs.cons (DG.name (i := 4) cl.nd rfl (by first | exact Or.inl rfl | exact Or.inr rfl)) (DGs.cons (DG.name (i := 3) cl.nd rfl (by first | exact Or.inl rfl | exact Or.inr rfl)) DGs.nil)) (gl1 (gl1 gl0)))) (DSs.cons (DS.fr PassesOwn.leaving cl.calm (DI.any (DE.ix ix_gIx (DE.var 0) DE.int)) (DG.name (i := 5) cl.nd rfl (by first | exact Or.inl rfl | exact Or.inr rfl)) (DSs.cons (DS.asg (DE.call cl ((IH i31_law_cut (by decide)).mono (by omega)) (by rfl) M.g__law_cut M.F__law_cut.kp M.a__law_cut (DA.cons (DE.var 5) (DA.cons (DE.op op_gSub (DE.var 1) (DE.var 3)) DA.nil))) (DG.tup cl.calm (DGs.cons (DG.name (i := 6) cl.nd rfl (by first | exact Or.inl rfl | exact Or.inr rfl)) (DGs.cons (DG.name (i := 7) cl.nd rfl (by first | exact Or.inl rfl | exact Or.inr rfl)) DGs.nil)) (gl1 (gl1 gl0)))) (DSs.cons (DS.expr (DE.app (DE.var 4) (DE.var 6))) (DSs.one (DS.set (i := 3) cl.nd rfl (by first | exact Or.inl rfl | exact Or.inr rfl) (DE.op op_gAdd (DE.var 3) (DE.var 7))))))) (DSs.one (DS.ret (DE.tup (DA.cons (DE.tup (DA.cons (DE.ix ix_gIx (DE.var 0) DE.int) (DA.cons (DE.callTy ca_tuple (by rfl) M.b_tuple rfl (DA.cons (DE.var 4) DA.nil)) DA.nil))) (DA.cons (DE.var 3) DA.nil)))))))))
theorem ok_law (M : Md K mg κ f fd fx fdx cL pL) (TB : ∀ i ∈ ([i448_law] : List Nat), LamX.TabB base mg (cL i) (pL i)) (sm : ∃ o, base.get? sysModules = some o) (IH : ∀ i ∈ ids, FnD κ P w K mg base (3 * k + 3) (f i) (fd i) (psT i) (T i)) : FnD κ P w K mg base (3 * k + 5 + 1) (f i448_law) (fd i448_law) ["_law_script"] (fnR 10 1 (m448_law T)) :=
  FnD.ofC M.F_law sc_law sm M.co_law fun A outer s H E cl => (DSs.cons (DS.fr PassesOwn.leaving cl.calm (DI.rng1 (by rfl) M.b_range (DA.cons (DE.callB (ca_max cl) (by rfl) M.b_max rfl (DA.cons DE.int (DA.cons (DE.callB (ca_min cl) (by rfl) M.b_min rfl (DA.cons DE.int (DA.cons (DE.callB ca_len (by rfl) M.b_len rfl (DA.cons (DE.var 0) DA.nil)) DA.nil))) DA.nil))) DA.nil)) (DG.name (i := 1) cl.nd rfl (by first | exact Or.inl rfl | exact Or.inr rfl)) (DSs.cons (DS.set (i := 2) cl.nd rfl (by first | exact Or.inl rfl | exact Or.inr rfl) (DE.call cl ((IH i13_law_hand (by decide)).mono (by omega)) (by rfl) M.g__law_hand M.F__law_hand.kp M.a__law_hand (DA.cons (DE.var 0) (DA.cons (DE.var 1) DA.nil)))) (DSs.one (DS.fr PassesOwn.leaving cl.calm (DI.any (DE.call cl ((IH i25_law_some_programs (by decide)).mono (by omega)) (by rfl) M.g__law_some_programs M.F__law_some_programs.kp M.a__law_some_programs (DA.cons (DE.var 2) (DA.cons DE.int DA.nil)))) (DG.name (i := 3) cl.nd rfl (by first | exact Or.inl rfl | exact Or.inr rfl)) (DSs.cons (DS.set (i := 4) cl.nd rfl (by first | exact Or.inl rfl | exact Or.inr rfl) (DE.callB ca_len (by rfl) M.b_len rfl (DA.cons (DE.call cl ((IH i23_law_listed (by decide)).mono (by omega)) (by rfl) M.g__law_listed M.F__law_listed.kp M.a__law_listed (DA.cons (DE.var 3) DA.nil)) DA.nil))) (DSs.cons (DS.set (i := 5) cl.nd rfl (by first | exact Or.inl rfl | exact Or.inr rfl) (DE.callB (ca_repr cl) (by rfl) M.b_repr rfl (DA.cons (DE.var 3) DA.nil))) (DSs.cons (DS.set (i := 6) cl.nd rfl (by first | exact Or.inl rfl | exact Or.inr rfl) (DN.dat (DN.lrg cl (by rfl) M.b_list (by rfl) M.b_range (DE.var 4)))) (DSs.cons (DS.ifs (DT.cmp op_gGt (DE.var 4) DE.int) (DSs.one (DS.set (i := 6) cl.nd rfl (by first | exact Or.inl rfl | exact Or.inr rfl) (DN.dat (DN.cat cl (DN.dat (DN.lst cl (DA.cons DE.int (DA.cons (DE.op op_gSub (DE.var 4) DE.int) DA.nil)))) (DN.dat (DN.lcc (own := [("_law_turn", 9)]) cl (DI.rng1 (by rfl) M.b_range (DA.cons DE.int DA.nil)) (blkOk_by (by rfl)) (fun _ h => h) (fun s H D d fp cl1 => (DG.name (i := 9) cl1.nd rfl (by first | exact Or.inl rfl | exact Or.inr rfl))) (fun s H D d fp cl1 => lc_all) (fun s H D d fp cl1 => (DE.call cl1 ((IH i2_law_take (by decide)).mono (by omega)) (by rfl) M.g__law_take M.F__law_take.kp M.a__law_take (DA.cons (DE.var 2) (DA.cons (DE.var 4) DA.nil)))))))))) DSs.nil) (DSs.cons (DS.set (i := 6) cl.nd rfl (by first | exact Or.inl rfl | exact Or.inr rfl) (DN.dat (DN.cat cl (DE.var 6) (DN.dat (DN.lst cl (DA.cons (DE.var 4) (DA.cons (DE.neg DE.int) (DA.cons DE.bl (DA.cons DE.non (DA.cons DE.str (DA.cons (DE.tup (DA.cons DE.int DA.nil)) (DA.cons (DE.op op_gAdd (DE.var 4) DE.int) DA.nil)))))))))))) (DSs.cons (DS.set (i := 6) cl.nd rfl (by first | exact Or.inl rfl | exact Or.inr rfl) (DN.dat (DN.cat cl (DE.var 6) (DN.dat (DN.lst cl (DA.cons (DE.call cl ((IH i8_law_odd (by decide)).mono (by omega)) (by rfl) M.g__law_odd M.F__law_odd.kp M.a__law_odd (DA.cons (DE.var 2) DA.nil)) (DA.cons (DE.call cl ((IH i8_law_odd (by decide)).mono (by omega)) (by rfl) M.g__law_odd M.F__law_odd.kp M.a__law_odd (DA.cons (DE.var 2) DA.nil)) DA.nil))))))) (DSs.one (DS.fr PassesOwn.leaving cl.calm (DI.any (DE.var 6)) (DG.name (i := 7) cl.nd rfl (by first | exact Or.inl rfl | exact Or.inr rfl)) (DSs.cons (DS.set (i := 8) cl.nd rfl (by first | exact Or.inl rfl | exact Or.inr rfl) (DE.tup (DA.cons DE.str (DA.cons (DE.var 7) DA.nil)))) (DSs.cons (DS.ifs (DT.truth (DE.call cl ((IH i46_law_is_number (by decide)).mono (by omega)) (by rfl) M.g__law_is_number M.F__law_is_number.kp M.a__law_is_number (DA.cons (DE.var 7) (DA.cons (DE.var 4) DA.nil)))) (DSs.one (DS.set (i := 8) cl.nd rfl (by first | exact Or.inl rfl | exact Or.inr rfl) (DE.tup (DA.cons DE.str (DA.cons (DE.ix ix_gIx (DE.call cl ((IH i31_law_cut (by decide)).mono (by omega)) (by rfl) M.g__law_cut M.F__law_cut.kp M.a__law_cut (DA.cons (DE.var 3) (DA.cons (DE.var 7) DA.nil))) DE.int) DA.nil))))) DSs.nil) (DSs.cons (DS.ifs (DT.cmp (op_gNe cl) (DE.callB (ca_repr cl) (by rfl) M.b_repr rfl (DA.cons (DE.lam cl M.F__law_raised (thd__law_raised M IH) sc__law_raised rfl (Or.inl rfl) (by rfl) M.g__law_raised M.F__law_raised.kp M.a__law_raised (TB i448_law (by decide)) rfl M.hm_law M.hu_law (LamX.lamS_by (by rfl)) rfl (fun _ _ _ _ _ => rfl) (fun A outer s H E f9 c9 cl9 => (DE.call cl9 ((IH i41_left_out (by decide)).mono (by omega)) (by rfl) M.g_left_out M.F_left_out.kp M.a_left_out (DA.cons (DE.var 3) (DA.cons (DE.var 7) DA.nil))))) DA.nil)) (DE.callB (ca_repr cl) (by rfl) M.b_repr rfl (DA.cons (DE.var 8) DA.nil))) (DSs.one (DS.ret DE.bl)) DSs.nil) (DSs.one (DS.ifs (DT.cmp (op_gNe cl) (DE.callB (ca_repr cl) (by rfl) M.b_repr rfl (DA.cons (DE.var 3) DA.nil)) (DE.var 5)) (DSs.one (DS.ret DE.bl)) DSs.nil))))))))))))))))) (DSs.one (DS.ret DE.bl)))
end
theorem all_ok {κ : Kap} {P : Program} {w : World} {K : PySem.W.Frag} {mg : Str → Option Value} {base : Heap} {f : Nat → Addr} {fd : Nat → FuncData} {fx : Nat → Addr} {fdx : Nat → FuncData} {cL pL : Nat → Addr} (M : Md K mg κ f fd fx fdx cL pL) (TB : ∀ i ∈ ([i448_law] : List Nat), LamX.TabB base mg (cL i) (pL i)) (sm : ∃ o, base.get? sysModules = some o) : ∀ (k i : Nat), i ∈ ids → FnD κ P w K mg base (3 * k + 3) (f i) (fd i) (psT i) (T k i)
  | 0, i, _ => FnD.bad
  | k + 1, i, hi => by
    have IH := all_ok (P := P) (w := w) (base := base) M TB sm k
    revert i
    exact List.forall_mem_cons.mpr ⟨ok_parts_of M TB sm IH, List.forall_mem_cons.mpr ⟨ok_instructions M TB sm IH, List.forall_mem_cons.mpr ⟨ok_check_number M TB sm IH, List.forall_mem_cons.mpr ⟨ok_cut_from M TB sm IH, List.forall_mem_cons.mpr ⟨ok_left_out M TB sm IH, List.forall_mem_cons.mpr ⟨ok__law_hand M TB sm IH, List.forall_mem_cons.mpr ⟨ok__law_take M TB sm IH, List.forall_mem_cons.mpr ⟨ok__law_of M TB sm IH, List.forall_mem_cons.mpr ⟨ok__law_names M TB sm IH, List.forall_mem_cons.mpr ⟨ok__law_instruction M TB sm IH, List.forall_mem_cons.mpr ⟨ok__law_tree M TB sm IH, List.forall_mem_cons.mpr ⟨ok__law_nodes M TB sm IH, List.forall_mem_cons.mpr ⟨ok__law_program M TB sm IH, List.forall_mem_cons.mpr ⟨ok__law_size M TB sm IH, List.forall_mem_cons.mpr ⟨ok__law_listed M TB sm IH, List.forall_mem_cons.mpr ⟨ok__law_odd M TB sm IH, List.forall_mem_cons.mpr ⟨ok__law_some_programs M TB sm IH, List.forall_mem_cons.mpr ⟨ok__law_is_number M TB sm IH, List.forall_mem_cons.mpr ⟨ok__law_cut M TB sm IH, List.forall_mem_cons.mpr ⟨ok_law M TB sm IH, fun _ h => nomatch h⟩⟩⟩⟩⟩⟩⟩⟩⟩⟩⟩⟩⟩⟩⟩⟩⟩⟩⟩⟩
set_option maxHeartbeats 8000000 in
theorem all_mk {w : World} {K : PySem.W.Frag} {h : Heap} {mg : Str → Option Value} {fa : Addr} (X : K.In h) (G : h.Ns mainGlobals mg) (hfa : mg "law" = some (.ref fa)) {P : Program}
    (LT : ∀ ns : List Int, ns.length ≤ 63 → (∀ i ∈ ns, Builtin.Int.intBits i ≤ 1048576) → ∃ μ, T 57 i448_law [.scr ns] [] = .ok (.bl true) μ)
    {f0 : Addr} {od0 an0 : Option Addr} {sl0 : Array (Option Value)} {oc0 kV0 dc0 pm0 cd0 ct0 : Value}
    {f1 : Addr} {od1 an1 : Option Addr} {sl1 : Array (Option Value)} {oc1 kV1 dc1 pm1 cd1 ct1 : Value}
    {f2 : Addr} {od2 an2 : Option Addr} {sl2 : Array (Option Value)} {oc2 kV2 dc2 pm2 cd2 ct2 : Value}
    {f3 : Addr} {od3 an3 : Option Addr} {sl3 : Array (Option Value)} {oc3 kV3 dc3 pm3 cd3 ct3 : Value}
    {f4 : Addr} {od4 an4 : Option Addr} {sl4 : Array (Option Value)} {oc4 kV4 dc4 pm4 cd4 ct4 : Value}
    {f5 : Addr} {od5 an5 : Option Addr} {sl5 : Array (Option Value)} {oc5 kV5 dc5 pm5 cd5 ct5 : Value}
    {f6 : Addr} {od6 an6 : Option Addr} {sl6 : Array (Option Value)} {oc6 kV6 dc6 pm6 cd6 ct6 : Value}
    {f7 : Addr} {od7 an7 : Option Addr} {sl7 : Array (Option Value)} {oc7 kV7 dc7 pm7 cd7 ct7 : Value}
    {f8 : Addr} {od8 an8 : Option Addr} {sl8 : Array (Option Value)} {oc8 kV8 dc8 pm8 cd8 ct8 : Value}
    {f9 : Addr} {od9 an9 : Option Addr} {sl9 : Array (Option Value)} {oc9 kV9 dc9 pm9 cd9 ct9 : Value}
    {f10 : Addr} {od10 an10 : Option Addr} {sl10 : Array (Option Value)} {oc10 kV10 dc10 pm10 cd10 ct10 : Value}
    {f11 : Addr} {od11 an11 : Option Addr} {sl11 : Array (Option Value)} {oc11 kV11 dc11 pm11 cd11 ct11 : Value}
    {f12 : Addr} {od12 an12 : Option Addr} {sl12 : Array (Option Value)} {oc12 kV12 dc12 pm12 cd12 ct12 : Value}
    {f13 : Addr} {od13 an13 : Option Addr} {sl13 : Array (Option Value)} {oc13 kV13 dc13 pm13 cd13 ct13 : Value}
    {f14 : Addr} {od14 an14 : Option Addr} {sl14 : Array (Option Value)} {oc14 kV14 dc14 pm14 cd14 ct14 : Value}
    {f15 : Addr} {od15 an15 : Option Addr} {sl15 : Array (Option Value)} {oc15 kV15 dc15 pm15 cd15 ct15 : Value}
    {f16 : Addr} {od16 an16 : Option Addr} {sl16 : Array (Option Value)} {oc16 kV16 dc16 pm16 cd16 ct16 : Value}
    {f17 : Addr} {od17 an17 : Option Addr} {sl17 : Array (Option Value)} {oc17 kV17 dc17 pm17 cd17 ct17 : Value}
    {f18 : Addr} {od18 an18 : Option Addr} {sl18 : Array (Option Value)} {oc18 kV18 dc18 pm18 cd18 ct18 : Value}
    {f19 : Addr} {od19 an19 : Option Addr} {sl19 : Array (Option Value)} {oc19 kV19 dc19 pm19 cd19 ct19 : Value}
    {f20 : Addr} {od20 an20 : Option Addr} {sl20 : Array (Option Value)} {oc20 kV20 dc20 pm20 ct20 : Value}
    (OT : ∀ dn ∈ (["law"] : List Str), ∀ fa', mg dn = some (.ref fa') → LamX.OwnTab K fa' h)
    (a0 : PySem.W.nsIn K mainGlobals "parts_of" = some (some (.ref f0))) (l0 : K.lookup f0 = some ⟨oc0, od0, .func (PySem.W.fnOf "parts_of" "parts_of" (defArgs s_parts_of) (defBody s_parts_of) (defScope s_parts_of) .none kV0 dc0 pm0 an0 cd0 ct0), sl0⟩) (d0 : PySem.W.codeIn K cd0 "parts_of" = true) (k0 : PySem.W.keepIn K (.ref f0) = true)
    (a1 : PySem.W.nsIn K mainGlobals "instructions" = some (some (.ref f1))) (l1 : K.lookup f1 = some ⟨oc1, od1, .func (PySem.W.fnOf "instructions" "instructions" (defArgs s_instructions) (defBody s_instructions) (defScope s_instructions) .none kV1 dc1 pm1 an1 cd1 ct1), sl1⟩) (d1 : PySem.W.codeIn K cd1 "instructions" = true) (k1 : PySem.W.keepIn K (.ref f1) = true)
    (a2 : PySem.W.nsIn K mainGlobals "check_number" = some (some (.ref f2))) (l2 : K.lookup f2 = some ⟨oc2, od2, .func (PySem.W.fnOf "check_number" "check_number" (defArgs s_check_number) (defBody s_check_number) (defScope s_check_number) .none kV2 dc2 pm2 an2 cd2 ct2), sl2⟩) (d2 : PySem.W.codeIn K cd2 "check_number" = true) (k2 : PySem.W.keepIn K (.ref f2) = true)
    (a3 : PySem.W.nsIn K mainGlobals "cut_from" = some (some (.ref f3))) (l3 : K.lookup f3 = some ⟨oc3, od3, .func (PySem.W.fnOf "cut_from" "cut_from" (defArgs s_cut_from) (defBody s_cut_from) (defScope s_cut_from) .none kV3 dc3 pm3 an3 cd3 ct3), sl3⟩) (d3 : PySem.W.codeIn K cd3 "cut_from" = true) (k3 : PySem.W.keepIn K (.ref f3) = true)
    (a4 : PySem.W.nsIn K mainGlobals "left_out" = some (some (.ref f4))) (l4 : K.lookup f4 = some ⟨oc4, od4, .func (PySem.W.fnOf "left_out" "left_out" (defArgs s_left_out) (defBody s_left_out) (defScope s_left_out) .none kV4 dc4 pm4 an4 cd4 ct4), sl4⟩) (d4 : PySem.W.codeIn K cd4 "left_out" = true) (k4 : PySem.W.keepIn K (.ref f4) = true)
    (a5 : PySem.W.nsIn K mainGlobals "_law_hand" = some (some (.ref f5))) (l5 : K.lookup f5 = some ⟨oc5, od5, .func (PySem.W.fnOf "_law_hand" "_law_hand" (defArgs s__law_hand) (defBody s__law_hand) (defScope s__law_hand) .none kV5 dc5 pm5 an5 cd5 ct5), sl5⟩) (d5 : PySem.W.codeIn K cd5 "_law_hand" = true) (k5 : PySem.W.keepIn K (.ref f5) = true)
    (a6 : PySem.W.nsIn K mainGlobals "_law_take" = some (some (.ref f6))) (l6 : K.lookup f6 = some ⟨oc6, od6, .func (PySem.W.fnOf "_law_take" "_law_take" (defArgs s__law_take) (defBody s__law_take) (defScope s__law_take) .none kV6 dc6 pm6 an6 cd6 ct6), sl6⟩) (d6 : PySem.W.codeIn K cd6 "_law_take" = true) (k6 : PySem.W.keepIn K (.ref f6) = true)
    (a7 : PySem.W.nsIn K mainGlobals "_law_of" = some (some (.ref f7))) (l7 : K.lookup f7 = some ⟨oc7, od7, .func (PySem.W.fnOf "_law_of" "_law_of" (defArgs s__law_of) (defBody s__law_of) (defScope s__law_of) .none kV7 dc7 pm7 an7 cd7 ct7), sl7⟩) (d7 : PySem.W.codeIn K cd7 "_law_of" = true) (k7 : PySem.W.keepIn K (.ref f7) = true)
    (a8 : PySem.W.nsIn K mainGlobals "_law_names" = some (some (.ref f8))) (l8 : K.lookup f8 = some ⟨oc8, od8, .func (PySem.W.fnOf "_law_names" "_law_names" (defArgs s__law_names) (defBody s__law_names) (defScope s__law_names) .none kV8 dc8 pm8 an8 cd8 ct8), sl8⟩) (d8 : PySem.W.codeIn K cd8 "_law_names" = true) (k8 : PySem.W.keepIn K (.ref f8) = true)
    (a9 : PySem.W.nsIn K mainGlobals "_law_instruction" = some (some (.ref f9))) (l9 : K.lookup f9 = some ⟨oc9, od9, .func (PySem.W.fnOf "_law_instruction" "_law_instruction" (defArgs s__law_instruction) (defBody s__law_instruction) (defScope s__law_instruction) .none kV9 dc9 pm9 an9 cd9 ct9), sl9⟩) (d9 : PySem.W.codeIn K cd9 "_law_instruction" = true) (k9 : PySem.W.keepIn K (.ref f9) = true)
    (a10 : PySem.W.nsIn K mainGlobals "_law_tree" = some (some (.ref f10))) (l10 : K.lookup f10 = some ⟨oc10, od10, .func (PySem.W.fnOf "_law_tree" "_law_tree" (defArgs s__law_tree) (defBody s__law_tree) (defScope s__law_tree) .none kV10 dc10 pm10 an10 cd10 ct10), sl10⟩) (d10 : PySem.W.codeIn K cd10 "_law_tree" = true) (k10 : PySem.W.keepIn K (.ref f10) = true)
    (a11 : PySem.W.nsIn K mainGlobals "_law_nodes" = some (some (.ref f11))) (l11 : K.lookup f11 = some ⟨oc11, od11, .func (PySem.W.fnOf "_law_nodes" "_law_nodes" (defArgs s__law_nodes) (defBody s__law_nodes) (defScope s__law_nodes) .none kV11 dc11 pm11 an11 cd11 ct11), sl11⟩) (d11 : PySem.W.codeIn K cd11 "_law_nodes" = true) (k11 : PySem.W.keepIn K (.ref f11) = true)
    (a12 : PySem.W.nsIn K mainGlobals "_law_program" = some (some (.ref f12))) (l12 : K.lookup f12 = some ⟨oc12, od12, .func (PySem.W.fnOf "_law_program" "_law_program" (defArgs s__law_program) (defBody s__law_program) (defScope s__law_program) .none kV12 dc12 pm12 an12 cd12 ct12), sl12⟩) (d12 : PySem.W.codeIn K cd12 "_law_program" = true) (k12 : PySem.W.keepIn K (.ref f12) = true)
    (a13 : PySem.W.nsIn K mainGlobals "_law_size" = some (some (.ref f13))) (l13 : K.lookup f13 = some ⟨oc13, od13, .func (PySem.W.fnOf "_law_size" "_law_size" (defArgs s__law_size) (defBody s__law_size) (defScope s__law_size) .none kV13 dc13 pm13 an13 cd13 ct13), sl13⟩) (d13 : PySem.W.codeIn K cd13 "_law_size" = true) (k13 : PySem.W.keepIn K (.ref f13) = true)
    (a14 : PySem.W.nsIn K mainGlobals "_law_listed" = some (some (.ref f14))) (l14 : K.lookup f14 = some ⟨oc14, od14, .func (PySem.W.fnOf "_law_listed" "_law_listed" (defArgs s__law_listed) (defBody s__law_listed) (defScope s__law_listed) .none kV14 dc14 pm14 an14 cd14 ct14), sl14⟩) (d14 : PySem.W.codeIn K cd14 "_law_listed" = true) (k14 : PySem.W.keepIn K (.ref f14) = true)
    (a15 : PySem.W.nsIn K mainGlobals "_law_odd" = some (some (.ref f15))) (l15 : K.lookup f15 = some ⟨oc15, od15, .func (PySem.W.fnOf "_law_odd" "_law_odd" (defArgs s__law_odd) (defBody s__law_odd) (defScope s__law_odd) .none kV15 dc15 pm15 an15 cd15 ct15), sl15⟩) (d15 : PySem.W.codeIn K cd15 "_law_odd" = true) (k15 : PySem.W.keepIn K (.ref f15) = true)
    (a16 : PySem.W.nsIn K mainGlobals "_law_some_programs" = some (some (.ref f16))) (l16 : K.lookup f16 = some ⟨oc16, od16, .func (PySem.W.fnOf "_law_some_programs" "_law_some_programs" (defArgs s__law_some_programs) (defBody s__law_some_programs) (defScope s__law_some_programs) .none kV16 dc16 pm16 an16 cd16 ct16), sl16⟩) (d16 : PySem.W.codeIn K cd16 "_law_some_programs" = true) (k16 : PySem.W.keepIn K (.ref f16) = true)
    (a17 : PySem.W.nsIn K mainGlobals "_law_raised" = some (some (.ref f17))) (l17 : K.lookup f17 = some ⟨oc17, od17, .func (PySem.W.fnOf "_law_raised" "_law_raised" (defArgs s__law_raised) (defBody s__law_raised) (defScope s__law_raised) .none kV17 dc17 pm17 an17 cd17 ct17), sl17⟩) (d17 : PySem.W.codeIn K cd17 "_law_raised" = true) (k17 : PySem.W.keepIn K (.ref f17) = true)
    (a18 : PySem.W.nsIn K mainGlobals "_law_is_number" = some (some (.ref f18))) (l18 : K.lookup f18 = some ⟨oc18, od18, .func (PySem.W.fnOf "_law_is_number" "_law_is_number" (defArgs s__law_is_number) (defBody s__law_is_number) (defScope s__law_is_number) .none kV18 dc18 pm18 an18 cd18 ct18), sl18⟩) (d18 : PySem.W.codeIn K cd18 "_law_is_number" = true) (k18 : PySem.W.keepIn K (.ref f18) = true)
    (a19 : PySem.W.nsIn K mainGlobals "_law_cut" = some (some (.ref f19))) (l19 : K.lookup f19 = some ⟨oc19, od19, .func (PySem.W.fnOf "_law_cut" "_law_cut" (defArgs s__law_cut) (defBody s__law_cut) (defScope s__law_cut) .none kV19 dc19 pm19 an19 cd19 ct19), sl19⟩) (d19 : PySem.W.codeIn K cd19 "_law_cut" = true) (k19 : PySem.W.keepIn K (.ref f19) = true)
    {cL20 pL20 : Addr} {eL20 : Value} {dL20 : Option Addr} {vL20 : Array Value} {sL20 : Array (Option Value)}
    (a20 : PySem.W.nsIn K mainGlobals "law" = some (some (.ref f20))) (l20 : K.lookup f20 = some ⟨oc20, od20, .func (PySem.W.fnOf "law" "law" (defArgs s_law) (defBody s_law) (defScope s_law) .none kV20 dc20 pm20 an20 (.ref cL20) ct20), sl20⟩) (d20 : PySem.W.codeIn K (.ref cL20) "law" = true) (k20 : PySem.W.keepIn K (.ref f20) = true)
    (kc20 : K.lookup cL20 = some ⟨eL20, dL20, .fields vL20, sL20⟩) (kv20 : vL20[11]? = some (.ref pL20)) (kn20 : K.lookup pL20 = none) (kh20 : PySem.W.codeHdIn K cL20 pL20 = true)
    {X0 N0 : Addr} {nm0 q0 : Str} {bs0 : List Value} {sn0 : List Str} {sub0 : List Value} {ab0 : Bool} {col0 : Option Bool} {dd0 : Option Addr} {j00 j10 j20 j30 j50 : Option Value}
    (xa0 : PySem.W.nsIn K mainGlobals "CountError" = some (some (.ref X0))) (xL0 : K.lookup X0 = some (excClassObj nm0 q0 X0 N0 bs0 [.type "ValueError", .type "Exception", .type "BaseException", .type "object"] true sn0 sub0 ab0 col0 dd0 j00 j10 j20 j30 j50 "ValueError.__new__"))
    (xb0 : PySem.W.findIn K (.ref X0) "__setattr__" = some (some (.builtin "object.__setattr__"))) (xc0 : PySem.W.findIn K (.ref X0) "__getattribute__" = some (some (.builtin "BaseException.__getattribute__"))) (xd0 : PySem.W.findIn K (.ref X0) "__getattr__" = some none) (xe0 : PySem.W.findIn K (.ref X0) "value" = some none)
    (xf0 : PySem.W.findIn K (.ref X0) "__class__" = some (some (.builtin "object.__class__"))) (xg0 : PySem.W.keepIn K (.ref X0) = true) (xh0 : PySem.W.typeIn K (.ref X0) = some (.type "type"))
    {X1 N1 : Addr} {nm1 q1 : Str} {bs1 : List Value} {sn1 : List Str} {sub1 : List Value} {ab1 : Bool} {col1 : Option Bool} {dd1 : Option Addr} {j01 j11 j21 j31 j51 : Option Value}
    (xa1 : PySem.W.nsIn K mainGlobals "NoInstruction" = some (some (.ref X1))) (xL1 : K.lookup X1 = some (excClassObj nm1 q1 X1 N1 bs1 [.ref X0, .type "ValueError", .type "Exception", .type "BaseException", .type "object"] true sn1 sub1 ab1 col1 dd1 j01 j11 j21 j31 j51 "ValueError.__new__"))
    (xb1 : PySem.W.findIn K (.ref X1) "__setattr__" = some (some (.builtin "object.__setattr__"))) (xc1 : PySem.W.findIn K (.ref X1) "__getattribute__" = some (some (.builtin "BaseException.__getattribute__"))) (xd1 : PySem.W.findIn K (.ref X1) "__getattr__" = some none) (xe1 : PySem.W.findIn K (.ref X1) "value" = some none)
    (xf1 : PySem.W.findIn K (.ref X1) "__class__" = some (some (.builtin "object.__class__"))) (xg1 : PySem.W.keepIn K (.ref X1) = true) (xh1 : PySem.W.typeIn K (.ref X1) = some (.type "type"))
    {fx1 : Addr} {odx1 anx1 : Option Addr} {slx1 : Array (Option Value)} {ocx1 kVx1 dcx1 pmx1 cdx1 ctx1 : Value} (xi1 : PySem.W.findIn K (.ref X1) "__init__" = some (some (.ref fx1))) (xj1 : PySem.W.typeIn K (.ref fx1) = some (.type "function"))
    (xl1 : K.lookup fx1 = some ⟨ocx1, odx1, .func (PySem.W.fnOf "__init__" "NoInstruction.__init__" (defArgs x_NoInstruction) (defBody x_NoInstruction) (defScope x_NoInstruction) .none kVx1 dcx1 pmx1 anx1 cdx1 ctx1), slx1⟩) (xm1 : PySem.W.codeIn K cdx1 "NoInstruction.__init__" = true) (xn1 : PySem.W.keepIn K (.ref fx1) = true)
    {X2 N2 : Addr} {nm2 q2 : Str} {bs2 : List Value} {sn2 : List Str} {sub2 : List Value} {ab2 : Bool} {col2 : Option Bool} {dd2 : Option Addr} {j02 j12 j22 j32 j52 : Option Value}
    (xa2 : PySem.W.nsIn K mainGlobals "TooMany" = some (some (.ref X2))) (xL2 : K.lookup X2 = some (excClassObj nm2 q2 X2 N2 bs2 [.ref X0, .type "ValueError", .type "Exception", .type "BaseException", .type "object"] true sn2 sub2 ab2 col2 dd2 j02 j12 j22 j32 j52 "ValueError.__new__"))
    (xb2 : PySem.W.findIn K (.ref X2) "__setattr__" = some (some (.builtin "object.__setattr__"))) (xc2 : PySem.W.findIn K (.ref X2) "__getattribute__" = some (some (.builtin "BaseException.__getattribute__"))) (xd2 : PySem.W.findIn K (.ref X2) "__getattr__" = some none) (xe2 : PySem.W.findIn K (.ref X2) "value" = some none)
    (xf2 : PySem.W.findIn K (.ref X2) "__class__" = some (some (.builtin "object.__class__"))) (xg2 : PySem.W.keepIn K (.ref X2) = true) (xh2 : PySem.W.typeIn K (.ref X2) = some (.type "type"))
    {fx2 : Addr} {odx2 anx2 : Option Addr} {slx2 : Array (Option Value)} {ocx2 kVx2 dcx2 pmx2 cdx2 ctx2 : Value} (xi2 : PySem.W.findIn K (.ref X2) "__init__" = some (some (.ref fx2))) (xj2 : PySem.W.typeIn K (.ref fx2) = some (.type "function"))
    (xl2 : K.lookup fx2 = some ⟨ocx2, odx2, .func (PySem.W.fnOf "__init__" "TooMany.__init__" (defArgs x_TooMany) (defBody x_TooMany) (defScope x_TooMany) .none kVx2 dcx2 pmx2 anx2 cdx2 ctx2), slx2⟩) (xm2 : PySem.W.codeIn K cdx2 "TooMany.__init__" = true) (xn2 : PySem.W.keepIn K (.ref fx2) = true)
    {X3 N3 : Addr} {nm3 q3 : Str} {bs3 : List Value} {sn3 : List Str} {sub3 : List Value} {ab3 : Bool} {col3 : Option Bool} {dd3 : Option Addr} {j03 j13 j23 j33 j53 : Option Value}
    (xa3 : PySem.W.nsIn K mainGlobals "BadRun" = some (some (.ref X3))) (xL3 : K.lookup X3 = some (excClassObj nm3 q3 X3 N3 bs3 [.ref X0, .type "ValueError", .type "Exception", .type "BaseException", .type "object"] true sn3 sub3 ab3 col3 dd3 j03 j13 j23 j33 j53 "ValueError.__new__"))
    (xb3 : PySem.W.findIn K (.ref X3) "__setattr__" = some (some (.builtin "object.__setattr__"))) (xc3 : PySem.W.findIn K (.ref X3) "__getattribute__" = some (some (.builtin "BaseException.__getattribute__"))) (xd3 : PySem.W.findIn K (.ref X3) "__getattr__" = some none) (xe3 : PySem.W.findIn K (.ref X3) "value" = some none)
    (xf3 : PySem.W.findIn K (.ref X3) "__class__" = some (some (.builtin "object.__class__"))) (xg3 : PySem.W.keepIn K (.ref X3) = true) (xh3 : PySem.W.typeIn K (.ref X3) = some (.type "type"))
    {fx3 : Addr} {odx3 anx3 : Option Addr} {slx3 : Array (Option Value)} {ocx3 kVx3 dcx3 pmx3 cdx3 ctx3 : Value} (xi3 : PySem.W.findIn K (.ref X3) "__init__" = some (some (.ref fx3))) (xj3 : PySem.W.typeIn K (.ref fx3) = some (.type "function"))
    (xl3 : K.lookup fx3 = some ⟨ocx3, odx3, .func (PySem.W.fnOf "__init__" "BadRun.__init__" (defArgs x_BadRun) (defBody x_BadRun) (defScope x_BadRun) .none kVx3 dcx3 pmx3 anx3 cdx3 ctx3), slx3⟩) (xm3 : PySem.W.codeIn K cdx3 "BadRun.__init__" = true) (xn3 : PySem.W.keepIn K (.ref fx3) = true)
    {X4 N4 : Addr} {nm4 q4 : Str} {bs4 : List Value} {sn4 : List Str} {sub4 : List Value} {ab4 : Bool} {col4 : Option Bool} {dd4 : Option Addr} {j04 j14 j24 j34 j54 : Option Value}
    (xa4 : PySem.W.nsIn K mainGlobals "NoObject" = some (some (.ref X4))) (xL4 : K.lookup X4 = some (excClassObj nm4 q4 X4 N4 bs4 [.ref X0, .type "ValueError", .type "Exception", .type "BaseException", .type "object"] true sn4 sub4 ab4 col4 dd4 j04 j14 j24 j34 j54 "ValueError.__new__"))
    (xb4 : PySem.W.findIn K (.ref X4) "__setattr__" = some (some (.builtin "object.__setattr__"))) (xc4 : PySem.W.findIn K (.ref X4) "__getattribute__" = some (some (.builtin "BaseException.__getattribute__"))) (xd4 : PySem.W.findIn K (.ref X4) "__getattr__" = some none) (xe4 : PySem.W.findIn K (.ref X4) "value" = some none)
    (xf4 : PySem.W.findIn K (.ref X4) "__class__" = some (some (.builtin "object.__class__"))) (xg4 : PySem.W.keepIn K (.ref X4) = true) (xh4 : PySem.W.typeIn K (.ref X4) = some (.type "type"))
    {fx4 : Addr} {odx4 anx4 : Option Addr} {slx4 : Array (Option Value)} {ocx4 kVx4 dcx4 pmx4 cdx4 ctx4 : Value} (xi4 : PySem.W.findIn K (.ref X4) "__init__" = some (some (.ref fx4))) (xj4 : PySem.W.typeIn K (.ref fx4) = some (.type "function"))
    (xl4 : K.lookup fx4 = some ⟨ocx4, odx4, .func (PySem.W.fnOf "__init__" "NoObject.__init__" (defArgs x_NoObject) (defBody x_NoObject) (defScope x_NoObject) .none kVx4 dcx4 pmx4 anx4 cdx4 ctx4), slx4⟩) (xm4 : PySem.W.codeIn K cdx4 "NoObject.__init__" = true) (xn4 : PySem.W.keepIn K (.ref fx4) = true)
    {X5 N5 : Addr} {nm5 q5 : Str} {bs5 : List Value} {sn5 : List Str} {sub5 : List Value} {ab5 : Bool} {col5 : Option Bool} {dd5 : Option Addr} {j05 j15 j25 j35 j55 : Option Value}
    (xa5 : PySem.W.nsIn K mainGlobals "BadNames" = some (some (.ref X5))) (xL5 : K.lookup X5 = some (excClassObj nm5 q5 X5 N5 bs5 [.ref X0, .type "ValueError", .type "Exception", .type "BaseException", .type "object"] true sn5 sub5 ab5 col5 dd5 j05 j15 j25 j35 j55 "ValueError.__new__"))
    (xb5 : PySem.W.findIn K (.ref X5) "__setattr__" = some (some (.builtin "object.__setattr__"))) (xc5 : PySem.W.findIn K (.ref X5) "__getattribute__" = some (some (.builtin "BaseException.__getattribute__"))) (xd5 : PySem.W.findIn K (.ref X5) "__getattr__" = some none) (xe5 : PySem.W.findIn K (.ref X5) "value" = some none)
    (xf5 : PySem.W.findIn K (.ref X5) "__class__" = some (some (.builtin "object.__class__"))) (xg5 : PySem.W.keepIn K (.ref X5) = true) (xh5 : PySem.W.typeIn K (.ref X5) = some (.type "type"))
    {fx5 : Addr} {odx5 anx5 : Option Addr} {slx5 : Array (Option Value)} {ocx5 kVx5 dcx5 pmx5 cdx5 ctx5 : Value} (xi5 : PySem.W.findIn K (.ref X5) "__init__" = some (some (.ref fx5))) (xj5 : PySem.W.typeIn K (.ref fx5) = some (.type "function"))
    (xl5 : K.lookup fx5 = some ⟨ocx5, odx5, .func (PySem.W.fnOf "__init__" "BadNames.__init__" (defArgs x_BadNames) (defBody x_BadNames) (defScope x_BadNames) .none kVx5 dcx5 pmx5 anx5 cdx5 ctx5), slx5⟩) (xm5 : PySem.W.codeIn K cdx5 "BadNames.__init__" = true) (xn5 : PySem.W.keepIn K (.ref fx5) = true)
    {X6 N6 : Addr} {nm6 q6 : Str} {bs6 : List Value} {sn6 : List Str} {sub6 : List Value} {ab6 : Bool} {col6 : Option Bool} {dd6 : Option Addr} {j06 j16 j26 j36 j56 : Option Value}
    (xa6 : PySem.W.nsIn K mainGlobals "NotUsed" = some (some (.ref X6))) (xL6 : K.lookup X6 = some (excClassObj nm6 q6 X6 N6 bs6 [.ref X0, .type "ValueError", .type "Exception", .type "BaseException", .type "object"] true sn6 sub6 ab6 col6 dd6 j06 j16 j26 j36 j56 "ValueError.__new__"))
    (xb6 : PySem.W.findIn K (.ref X6) "__setattr__" = some (some (.builtin "object.__setattr__"))) (xc6 : PySem.W.findIn K (.ref X6) "__getattribute__" = some (some (.builtin "BaseException.__getattribute__"))) (xd6 : PySem.W.findIn K (.ref X6) "__getattr__" = some none) (xe6 : PySem.W.findIn K (.ref X6) "value" = some none)
    (xf6 : PySem.W.findIn K (.ref X6) "__class__" = some (some (.builtin "object.__class__"))) (xg6 : PySem.W.keepIn K (.ref X6) = true) (xh6 : PySem.W.typeIn K (.ref X6) = some (.type "type"))
    {fx6 : Addr} {odx6 anx6 : Option Addr} {slx6 : Array (Option Value)} {ocx6 kVx6 dcx6 pmx6 cdx6 ctx6 : Value} (xi6 : PySem.W.findIn K (.ref X6) "__init__" = some (some (.ref fx6))) (xj6 : PySem.W.typeIn K (.ref fx6) = some (.type "function"))
    (xl6 : K.lookup fx6 = some ⟨ocx6, odx6, .func (PySem.W.fnOf "__init__" "NotUsed.__init__" (defArgs x_NotUsed) (defBody x_NotUsed) (defScope x_NotUsed) .none kVx6 dcx6 pmx6 anx6 cdx6 ctx6), slx6⟩) (xm6 : PySem.W.codeIn K cdx6 "NotUsed.__init__" = true) (xn6 : PySem.W.keepIn K (.ref fx6) = true)
    {X11 N11 : Addr} {nm11 q11 : Str} {bs11 : List Value} {sn11 : List Str} {sub11 : List Value} {ab11 : Bool} {col11 : Option Bool} {dd11 : Option Addr} {j011 j111 j211 j311 j511 : Option Value}
    (xa11 : PySem.W.nsIn K mainGlobals "BadText" = some (some (.ref X11))) (xL11 : K.lookup X11 = some (excClassObj nm11 q11 X11 N11 bs11 [.ref X0, .type "ValueError", .type "Exception", .type "BaseException", .type "object"] true sn11 sub11 ab11 col11 dd11 j011 j111 j211 j311 j511 "ValueError.__new__"))
    (xb11 : PySem.W.findIn K (.ref X11) "__setattr__" = some (some (.builtin "object.__setattr__"))) (xc11 : PySem.W.findIn K (.ref X11) "__getattribute__" = some (some (.builtin "BaseException.__getattribute__"))) (xd11 : PySem.W.findIn K (.ref X11) "__getattr__" = some none) (xe11 : PySem.W.findIn K (.ref X11) "value" = some none)
    (xf11 : PySem.W.findIn K (.ref X11) "__class__" = some (some (.builtin "object.__class__"))) (xg11 : PySem.W.keepIn K (.ref X11) = true) (xh11 : PySem.W.typeIn K (.ref X11) = some (.type "type"))
    {fx11 : Addr} {odx11 anx11 : Option Addr} {slx11 : Array (Option Value)} {ocx11 kVx11 dcx11 pmx11 cdx11 ctx11 : Value} (xi11 : PySem.W.findIn K (.ref X11) "__init__" = some (some (.ref fx11))) (xj11 : PySem.W.typeIn K (.ref fx11) = some (.type "function"))
    (xl11 : K.lookup fx11 = some ⟨ocx11, odx11, .func (PySem.W.fnOf "__init__" "BadText.__init__" (defArgs x_BadText) (defBody x_BadText) (defScope x_BadText) .none kVx11 dcx11 pmx11 anx11 cdx11 ctx11), slx11⟩) (xm11 : PySem.W.codeIn K cdx11 "BadText.__init__" = true) (xn11 : PySem.W.keepIn K (.ref fx11) = true)
    (ys : PySem.W.specialIn K (.ref X0) "__getattribute__" = some (some (.builtin "type.__getattribute__"))) (yr : PySem.W.readsIn K X0 (.type "type") = true) (yv : PySem.W.findCls K (.ref X0) (.type "type") "__init__" = some (.val (.builtin "ValueError.__init__")))
    (yn : PySem.W.specialIn K (.builtin "object.__class__") "__get__" = some (some (.builtin "getset_descriptor.__get__"))) (yt : PySem.W.takesIn K (.builtin "object.__class__") = some true) (nd : [X0, X1, X2, X3, X4, X5, X6, X11].Nodup)
    {t_LOOP : Tok} (c_LOOP : PySem.W.nsIn K mainGlobals "LOOP" = some (some (.str "loop" t_LOOP)))
    {t_SEQ : Tok} (c_SEQ : PySem.W.nsIn K mainGlobals "SEQ" = some (some (.str "seq" t_SEQ)))
    {t_BRANCH : Tok} (c_BRANCH : PySem.W.nsIn K mainGlobals "BRANCH" = some (some (.str "branch" t_BRANCH)))
    {gtEMPTY_0_0 : Tok} {gaEMPTY_1 : Addr} {gdEMPTY_1 : Option Addr} {gnEMPTY_1 : Nat} {gsEMPTY_1 : Array (Option Value)} {gaEMPTY_0 : Addr} {gdEMPTY_0 : Option Addr} {gnEMPTY_0 : Nat} {gsEMPTY_0 : Array (Option Value)} (c_EMPTY : PySem.W.nsIn K mainGlobals "EMPTY" = some (some (.ref gaEMPTY_0))) (uEMPTY_0 : K.lookup gaEMPTY_0 = some ⟨.type "tuple", gdEMPTY_0, .seq ([.str "seq" gtEMPTY_0_0, .ref gaEMPTY_1] : List Value).toArray gnEMPTY_0, gsEMPTY_0⟩) (uEMPTY_1 : K.lookup gaEMPTY_1 = some ⟨.type "tuple", gdEMPTY_1, .seq ([] : List Value).toArray gnEMPTY_1, gsEMPTY_1⟩)
    (ndp : [pL20].Nodup)
    (z_tuple : PySem.W.nsIn K mainGlobals "tuple" = some none)
    (z_isinstance : PySem.W.nsIn K mainGlobals "isinstance" = some none)
    (z_int : PySem.W.nsIn K mainGlobals "int" = some none)
    (z_bool : PySem.W.nsIn K mainGlobals "bool" = some none)
    (z_len : PySem.W.nsIn K mainGlobals "len" = some none)
    (z_abs : PySem.W.nsIn K mainGlobals "abs" = some none)
    (z_min : PySem.W.nsIn K mainGlobals "min" = some none)
    (z_range : PySem.W.nsIn K mainGlobals "range" = some none)
    (z_sum : PySem.W.nsIn K mainGlobals "sum" = some none)
    (z_max : PySem.W.nsIn K mainGlobals "max" = some none)
    (z_ValueError : PySem.W.nsIn K mainGlobals "ValueError" = some none)
    (z_repr : PySem.W.nsIn K mainGlobals "repr" = some none)
    (z_list : PySem.W.nsIn K mainGlobals "list" = some none)
    : ∃ (fd : FuncData) (κ : Kap) (cs : List (Addr × Addr)) (r : Fn), (∀ p ∈ cs, h.get? p.2 = some { cls := .none, data := .fields #[] }) ∧ (∀ p ∈ cs, K.lookup p.2 = none) ∧ (∀ p ∈ cs, PySem.W.CodeHd h p.1 p.2) ∧ (∀ p ∈ κ.T, p.1 ∈ cs.map (·.2)) ∧
      (∀ (s : Shared) (u : Value), BindsTo s fd ⟨[u], []⟩ [("_law_script", u)]) ∧ (∀ ns : List Int, ns.length ≤ 63 → (∀ i ∈ ns, Builtin.Int.intBits i ≤ 1048576) → ∃ μ, r [.scr ns] [] = .ok (.bl true) μ) ∧
      ∀ base : Heap, K.In base → base.Ns mainGlobals mg → (∃ o, base.get? sysModules = some o) → (∀ p ∈ cs, LamX.TabB base mg p.1 p.2) → FnD κ P w K mg base 174 fa fd ["_law_script"] r := by
  have e := hfa.symm.trans (PySem.W.mg_of X G a20)
  cases e
  have F0 := fun_mk (st := s_parts_of) l0 d0 k0
  have F1 := fun_mk (st := s_instructions) l1 d1 k1
  have F2 := fun_mk (st := s_check_number) l2 d2 k2
  have F3 := fun_mk (st := s_cut_from) l3 d3 k3
  have F4 := fun_mk (st := s_left_out) l4 d4 k4
  have F5 := fun_mk (st := s__law_hand) l5 d5 k5
  have F6 := fun_mk (st := s__law_take) l6 d6 k6
  have F7 := fun_mk (st := s__law_of) l7 d7 k7
  have F8 := fun_mk (st := s__law_names) l8 d8 k8
  have F9 := fun_mk (st := s__law_instruction) l9 d9 k9
  have F10 := fun_mk (st := s__law_tree) l10 d10 k10
  have F11 := fun_mk (st := s__law_nodes) l11 d11 k11
  have F12 := fun_mk (st := s__law_program) l12 d12 k12
  have F13 := fun_mk (st := s__law_size) l13 d13 k13
  have F14 := fun_mk (st := s__law_listed) l14 d14 k14
  have F15 := fun_mk (st := s__law_odd) l15 d15 k15
  have F16 := fun_mk (st := s__law_some_programs) l16 d16 k16
  have F17 := fun_mk (st := s__law_raised) l17 d17 k17
  have F18 := fun_mk (st := s__law_is_number) l18 d18 k18
  have F19 := fun_mk (st := s__law_cut) l19 d19 k19
  have F20 := fun_mk (st := s_law) l20 d20 k20
  have G0 : XCg K := ⟨yn, yt⟩
  have hZ : PySem.W.clsIn K f0 = none := by unfold PySem.W.clsIn; rw [l0]
  have H0 : XCf K X0 (xbm X0 0) := ⟨⟨_, _, _, _, _, _, _, _, _, _, _, _, _, _, xL0⟩, xb0, xc0, xd0, xe0, xf0, xg0, xh0⟩
  have H1 : XCf K X1 (xbm X0 1) := ⟨⟨_, _, _, _, _, _, _, _, _, _, _, _, _, _, xL1⟩, xb1, xc1, xd1, xe1, xf1, xg1, xh1⟩
  have Fx1 := fun_mk (st := x_NoInstruction) xl1 xm1 xn1
  have H2 : XCf K X2 (xbm X0 2) := ⟨⟨_, _, _, _, _, _, _, _, _, _, _, _, _, _, xL2⟩, xb2, xc2, xd2, xe2, xf2, xg2, xh2⟩
  have Fx2 := fun_mk (st := x_TooMany) xl2 xm2 xn2
  have H3 : XCf K X3 (xbm X0 3) := ⟨⟨_, _, _, _, _, _, _, _, _, _, _, _, _, _, xL3⟩, xb3, xc3, xd3, xe3, xf3, xg3, xh3⟩
  have Fx3 := fun_mk (st := x_BadRun) xl3 xm3 xn3
  have H4 : XCf K X4 (xbm X0 4) := ⟨⟨_, _, _, _, _, _, _, _, _, _, _, _, _, _, xL4⟩, xb4, xc4, xd4, xe4, xf4, xg4, xh4⟩
  have Fx4 := fun_mk (st := x_NoObject) xl4 xm4 xn4
  have H5 : XCf K X5 (xbm X0 5) := ⟨⟨_, _, _, _, _, _, _, _, _, _, _, _, _, _, xL5⟩, xb5, xc5, xd5, xe5, xf5, xg5, xh5⟩
  have Fx5 := fun_mk (st := x_BadNames) xl5 xm5 xn5
  have H6 : XCf K X6 (xbm X0 6) := ⟨⟨_, _, _, _, _, _, _, _, _, _, _, _, _, _, xL6⟩, xb6, xc6, xd6, xe6, xf6, xg6, xh6⟩
  have Fx6 := fun_mk (st := x_NotUsed) xl6 xm6 xn6
  have H11 : XCf K X11 (xbm X0 11) := ⟨⟨_, _, _, _, _, _, _, _, _, _, _, _, _, _, xL11⟩, xb11, xc11, xd11, xe11, xf11, xg11, xh11⟩
  have Fx11 := fun_mk (st := x_BadText) xl11 xm11 xn11
  have M : Md K mg (⟨kap [(0, X0), (1, X1), (2, X2), (3, X3), (4, X4), (5, X5), (6, X6), (11, X11)] f0, [(pL20, (PyProof.Rows.envOfC "law" (defScope s_law) 0 0 .none).qual ++ ("<lambda>" : Str))]⟩ : Kap) (fun i => match i with | 19 => f0 | 20 => f1 | 29 => f2 | 30 => f3 | 41 => f4 | 13 => f5 | 2 => f6 | 3 => f7 | 7 => f8 | 4 => f9 | 5 => f10 | 6 => f11 | 15 => f12 | 14 => f13 | 23 => f14 | 8 => f15 | 25 => f16 | 436 => f17 | 46 => f18 | 31 => f19 | 448 => fa | _ => fa) (fun i => match i with | 19 => PySem.W.fnOf "parts_of" "parts_of" (defArgs s_parts_of) (defBody s_parts_of) (defScope s_parts_of) .none kV0 dc0 pm0 an0 cd0 ct0 | 20 => PySem.W.fnOf "instructions" "instructions" (defArgs s_instructions) (defBody s_instructions) (defScope s_instructions) .none kV1 dc1 pm1 an1 cd1 ct1 | 29 => PySem.W.fnOf "check_number" "check_number" (defArgs s_check_number) (defBody s_check_number) (defScope s_check_number) .none kV2 dc2 pm2 an2 cd2 ct2 | 30 => PySem.W.fnOf "cut_from" "cut_from" (defArgs s_cut_from) (defBody s_cut_from) (defScope s_cut_from) .none kV3 dc3 pm3 an3 cd3 ct3 | 41 => PySem.W.fnOf "left_out" "left_out" (defArgs s_left_out) (defBody s_left_out) (defScope s_left_out) .none kV4 dc4 pm4 an4 cd4 ct4 | 13 => PySem.W.fnOf "_law_hand" "_law_hand" (defArgs s__law_hand) (defBody s__law_hand) (defScope s__law_hand) .none kV5 dc5 pm5 an5 cd5 ct5 | 2 => PySem.W.fnOf "_law_take" "_law_take" (defArgs s__law_take) (defBody s__law_take) (defScope s__law_take) .none kV6 dc6 pm6 an6 cd6 ct6 | 3 => PySem.W.fnOf "_law_of" "_law_of" (defArgs s__law_of) (defBody s__law_of) (defScope s__law_of) .none kV7 dc7 pm7 an7 cd7 ct7 | 7 => PySem.W.fnOf "_law_names" "_law_names" (defArgs s__law_names) (defBody s__law_names) (defScope s__law_names) .none kV8 dc8 pm8 an8 cd8 ct8 | 4 => PySem.W.fnOf "_law_instruction" "_law_instruction" (defArgs s__law_instruction) (defBody s__law_instruction) (defScope s__law_instruction) .none kV9 dc9 pm9 an9 cd9 ct9 | 5 => PySem.W.fnOf "_law_tree" "_law_tree" (defArgs s__law_tree) (defBody s__law_tree) (defScope s__law_tree) .none kV10 dc10 pm10 an10 cd10 ct10 | 6 => PySem.W.fnOf "_law_nodes" "_law_nodes" (defArgs s__law_nodes) (defBody s__law_nodes) (defScope s__law_nodes) .none kV11 dc11 pm11 an11 cd11 ct11 | 15 => PySem.W.fnOf "_law_program" "_law_program" (defArgs s__law_program) (defBody s__law_program) (defScope s__law_program) .none kV12 dc12 pm12 an12 cd12 ct12 | 14 => PySem.W.fnOf "_law_size" "_law_size" (defArgs s__law_size) (defBody s__law_size) (defScope s__law_size) .none kV13 dc13 pm13 an13 cd13 ct13 | 23 => PySem.W.fnOf "_law_listed" "_law_listed" (defArgs s__law_listed) (defBody s__law_listed) (defScope s__law_listed) .none kV14 dc14 pm14 an14 cd14 ct14 | 8 => PySem.W.fnOf "_law_odd" "_law_odd" (defArgs s__law_odd) (defBody s__law_odd) (defScope s__law_odd) .none kV15 dc15 pm15 an15 cd15 ct15 | 25 => PySem.W.fnOf "_law_some_programs" "_law_some_programs" (defArgs s__law_some_programs) (defBody s__law_some_programs) (defScope s__law_some_programs) .none kV16 dc16 pm16 an16 cd16 ct16 | 436 => PySem.W.fnOf "_law_raised" "_law_raised" (defArgs s__law_raised) (defBody s__law_raised) (defScope s__law_raised) .none kV17 dc17 pm17 an17 cd17 ct17 | 46 => PySem.W.fnOf "_law_is_number" "_law_is_number" (defArgs s__law_is_number) (defBody s__law_is_number) (defScope s__law_is_number) .none kV18 dc18 pm18 an18 cd18 ct18 | 31 => PySem.W.fnOf "_law_cut" "_law_cut" (defArgs s__law_cut) (defBody s__law_cut) (defScope s__law_cut) .none kV19 dc19 pm19 an19 cd19 ct19 | 448 => PySem.W.fnOf "law" "law" (defArgs s_law) (defBody s_law) (defScope s_law) .none kV20 dc20 pm20 an20 (.ref cL20) ct20 | _ => PySem.W.fnOf "law" "law" (defArgs s_law) (defBody s_law) (defScope s_law) .none kV20 dc20 pm20 an20 (.ref cL20) ct20) (fun i => match i with | 1 => fx1 | 2 => fx2 | 3 => fx3 | 4 => fx4 | 5 => fx5 | 6 => fx6 | 11 => fx11 | _ => f0) (fun i => match i with | 1 => PySem.W.fnOf "__init__" "NoInstruction.__init__" (defArgs x_NoInstruction) (defBody x_NoInstruction) (defScope x_NoInstruction) .none kVx1 dcx1 pmx1 anx1 cdx1 ctx1 | 2 => PySem.W.fnOf "__init__" "TooMany.__init__" (defArgs x_TooMany) (defBody x_TooMany) (defScope x_TooMany) .none kVx2 dcx2 pmx2 anx2 cdx2 ctx2 | 3 => PySem.W.fnOf "__init__" "BadRun.__init__" (defArgs x_BadRun) (defBody x_BadRun) (defScope x_BadRun) .none kVx3 dcx3 pmx3 anx3 cdx3 ctx3 | 4 => PySem.W.fnOf "__init__" "NoObject.__init__" (defArgs x_NoObject) (defBody x_NoObject) (defScope x_NoObject) .none kVx4 dcx4 pmx4 anx4 cdx4 ctx4 | 5 => PySem.W.fnOf "__init__" "BadNames.__init__" (defArgs x_BadNames) (defBody x_BadNames) (defScope x_BadNames) .none kVx5 dcx5 pmx5 anx5 cdx5 ctx5 | 6 => PySem.W.fnOf "__init__" "NotUsed.__init__" (defArgs x_NotUsed) (defBody x_NotUsed) (defScope x_NotUsed) .none kVx6 dcx6 pmx6 anx6 cdx6 ctx6 | 11 => PySem.W.fnOf "__init__" "BadText.__init__" (defArgs x_BadText) (defBody x_BadText) (defScope x_BadText) .none kVx11 dcx11 pmx11 anx11 cdx11 ctx11 | _ => default) (fun i => match i with | 448 => cL20 | _ => 0) (fun i => match i with | 448 => pL20 | _ => 0) := { xg_CountError := PySem.W.mg_of X G xa0, xk_CountError := kc_of (C := X0) G0 (by simp) nd (by simp) hZ (by simp) rfl H0, xp_CountError := H0.pres (xbm_ve _ _), xo_CountError := H0.oex (xbm_ve _ _), xg_NoInstruction := PySem.W.mg_of X G xa1, xk_NoInstruction := kc_of (C := X1) G0 (by simp) nd (by simp) hZ (by simp) rfl H1, xp_NoInstruction := H1.pres (xbm_ve _ _), xo_NoInstruction := H1.oex (xbm_ve _ _), xi_NoInstruction := xi1, xj_NoInstruction := xj1, xF_NoInstruction := Fx1, xa_NoInstruction := Fx1.binds fun _ _ _ _ _ _ us hl => match us, hl with | [_, _], _ => rfl, xg_TooMany := PySem.W.mg_of X G xa2, xk_TooMany := kc_of (C := X2) G0 (by simp) nd (by simp) hZ (by simp) rfl H2, xp_TooMany := H2.pres (xbm_ve _ _), xo_TooMany := H2.oex (xbm_ve _ _), xi_TooMany := xi2, xj_TooMany := xj2, xF_TooMany := Fx2, xa_TooMany := Fx2.binds fun _ _ _ _ _ _ us hl => match us, hl with | [_, _], _ => rfl, xg_BadRun := PySem.W.mg_of X G xa3, xk_BadRun := kc_of (C := X3) G0 (by simp) nd (by simp) hZ (by simp) rfl H3, xp_BadRun := H3.pres (xbm_ve _ _), xo_BadRun := H3.oex (xbm_ve _ _), xi_BadRun := xi3, xj_BadRun := xj3, xF_BadRun := Fx3, xa_BadRun := Fx3.binds fun _ _ _ _ _ _ us hl => match us, hl with | [_, _], _ => rfl, xg_NoObject := PySem.W.mg_of X G xa4, xk_NoObject := kc_of (C := X4) G0 (by simp) nd (by simp) hZ (by simp) rfl H4, xp_NoObject := H4.pres (xbm_ve _ _), xo_NoObject := H4.oex (xbm_ve _ _), xi_NoObject := xi4, xj_NoObject := xj4, xF_NoObject := Fx4, xa_NoObject := Fx4.binds fun _ _ _ _ _ _ us hl => match us, hl with | [_, _], _ => rfl, xg_BadNames := PySem.W.mg_of X G xa5, xk_BadNames := kc_of (C := X5) G0 (by simp) nd (by simp) hZ (by simp) rfl H5, xp_BadNames := H5.pres (xbm_ve _ _), xo_BadNames := H5.oex (xbm_ve _ _), xi_BadNames := xi5, xj_BadNames := xj5, xF_BadNames := Fx5, xa_BadNames := Fx5.binds fun _ _ _ _ _ _ us hl => match us, hl with | [_, _], _ => rfl, xg_NotUsed := PySem.W.mg_of X G xa6, xk_NotUsed := kc_of (C := X6) G0 (by simp) nd (by simp) hZ (by simp) rfl H6, xp_NotUsed := H6.pres (xbm_ve _ _), xo_NotUsed := H6.oex (xbm_ve _ _), xi_NotUsed := xi6, xj_NotUsed := xj6, xF_NotUsed := Fx6, xa_NotUsed := Fx6.binds fun _ _ _ _ _ _ us hl => match us, hl with | [_, _], _ => rfl, xg_BadText := PySem.W.mg_of X G xa11, xk_BadText := kc_of (C := X11) G0 (by simp) nd (by simp) hZ (by simp) rfl H11, xp_BadText := H11.pres (xbm_ve _ _), xo_BadText := H11.oex (xbm_ve _ _), xi_BadText := xi11, xj_BadText := xj11, xF_BadText := Fx11, xa_BadText := Fx11.binds fun _ _ _ _ _ _ us hl => match us, hl with | [_, _], _ => rfl, xs := ys, xr := yr, xv := yv, co_law := rfl, hm_law := (.head _), hu_law := tab_hu (L := [(pL20, (PyProof.Rows.envOfC "law" (defScope s_law) 0 0 .none).qual ++ ("<lambda>" : Str))]) ndp (.head _), F_parts_of := F0, g_parts_of := PySem.W.mg_of X G a0, a_parts_of := F0.binds fun _ _ _ _ _ _ us hl => match us, hl with | [_], _ => rfl, F_instructions := F1, g_instructions := PySem.W.mg_of X G a1, a_instructions := F1.binds fun _ _ _ _ _ _ us hl => match us, hl with | [_], _ => rfl, F_check_number := F2, g_check_number := PySem.W.mg_of X G a2, a_check_number := F2.binds fun _ _ _ _ _ _ us hl => match us, hl with | [_, _], _ => rfl, F_cut_from := F3, g_cut_from := PySem.W.mg_of X G a3, a_cut_from := F3.binds fun _ _ _ _ _ _ us hl => match us, hl with | [_, _], _ => rfl, F_left_out := F4, g_left_out := PySem.W.mg_of X G a4, a_left_out := F4.binds fun _ _ _ _ _ _ us hl => match us, hl with | [_, _], _ => rfl, F__law_hand := F5, g__law_hand := PySem.W.mg_of X G a5, a__law_hand := F5.binds fun _ _ _ _ _ _ us hl => match us, hl with | [_, _], _ => rfl, F__law_take := F6, g__law_take := PySem.W.mg_of X G a6, a__law_take := F6.binds fun _ _ _ _ _ _ us hl => match us, hl with | [_, _], _ => rfl, F__law_of := F7, g__law_of := PySem.W.mg_of X G a7, a__law_of := F7.binds fun _ _ _ _ _ _ us hl => match us, hl with | [_, _], _ => rfl, F__law_names := F8, g__law_names := PySem.W.mg_of X G a8, a__law_names := F8.binds fun _ _ _ _ _ _ us hl => match us, hl with | [_, _], _ => rfl, F__law_instruction := F9, g__law_instruction := PySem.W.mg_of X G a9, a__law_instruction := F9.binds fun _ _ _ _ _ _ us hl => match us, hl with | [_, _], _ => rfl, F__law_tree := F10, g__law_tree := PySem.W.mg_of X G a10, a__law_tree := F10.binds fun _ _ _ _ _ _ us hl => match us, hl with | [_, _, _, _], _ => rfl, F__law_nodes := F11, g__law_nodes := PySem.W.mg_of X G a11, a__law_nodes := F11.binds fun _ _ _ _ _ _ us hl => match us, hl with | [_], _ => rfl, F__law_program := F12, g__law_program := PySem.W.mg_of X G a12, a__law_program := F12.binds fun _ _ _ _ _ _ us hl => match us, hl with | [_, _], _ => rfl, F__law_size := F13, g__law_size := PySem.W.mg_of X G a13, a__law_size := F13.binds fun _ _ _ _ _ _ us hl => match us, hl with | [_], _ => rfl, F__law_listed := F14, g__law_listed := PySem.W.mg_of X G a14, a__law_listed := F14.binds fun _ _ _ _ _ _ us hl => match us, hl with | [_], _ => rfl, F__law_odd := F15, g__law_odd := PySem.W.mg_of X G a15, a__law_odd := F15.binds fun _ _ _ _ _ _ us hl => match us, hl with | [_], _ => rfl, F__law_some_programs := F16, g__law_some_programs := PySem.W.mg_of X G a16, a__law_some_programs := F16.binds fun _ _ _ _ _ _ us hl => match us, hl with | [_, _], _ => rfl, F__law_raised := F17, g__law_raised := PySem.W.mg_of X G a17, a__law_raised := F17.binds fun _ _ _ _ _ _ us hl => match us, hl with | [_], _ => rfl, F__law_is_number := F18, g__law_is_number := PySem.W.mg_of X G a18, a__law_is_number := F18.binds fun _ _ _ _ _ _ us hl => match us, hl with | [_, _], _ => rfl, F__law_cut := F19, g__law_cut := PySem.W.mg_of X G a19, a__law_cut := F19.binds fun _ _ _ _ _ _ us hl => match us, hl with | [_, _], _ => rfl, F_law := F20, g_law := PySem.W.mg_of X G a20, a_law := F20.binds fun _ _ _ _ _ _ us hl => match us, hl with | [_], _ => rfl, c_LOOP := ⟨_, PySem.W.mg_of X G c_LOOP⟩, c_SEQ := ⟨_, PySem.W.mg_of X G c_SEQ⟩, c_BRANCH := ⟨_, PySem.W.mg_of X G c_BRANCH⟩, c_EMPTY := ⟨_, PySem.W.mg_of X G c_EMPTY, (ktup (vs := [.str "seq", .ref gaEMPTY_1]) uEMPTY_0 (.cons ⟨_, rfl⟩ (.cons rfl .nil)) (by simp) (fun κ ι H => (.cons (.str _) (.cons ((ktup (vs := []) uEMPTY_1 .nil (by simp) (fun κ ι H => .nil)) κ ι H) .nil))))⟩, b_tuple := PySem.W.mg_none_of X G z_tuple, b_isinstance := PySem.W.mg_none_of X G z_isinstance, b_int := PySem.W.mg_none_of X G z_int, b_bool := PySem.W.mg_none_of X G z_bool, b_len := PySem.W.mg_none_of X G z_len, b_abs := PySem.W.mg_none_of X G z_abs, b_min := PySem.W.mg_none_of X G z_min, b_range := PySem.W.mg_none_of X G z_range, b_sum := PySem.W.mg_none_of X G z_sum, b_max := PySem.W.mg_none_of X G z_max, b_ValueError := PySem.W.mg_none_of X G z_ValueError, b_repr := PySem.W.mg_none_of X G z_repr, b_list := PySem.W.mg_none_of X G z_list }
  exact ⟨_, (⟨kap [(0, X0), (1, X1), (2, X2), (3, X3), (4, X4), (5, X5), (6, X6), (11, X11)] f0, [(pL20, (PyProof.Rows.envOfC "law" (defScope s_law) 0 0 .none).qual ++ ("<lambda>" : Str))]⟩ : Kap), [(cL20, pL20)], T 57 i448_law, List.forall_mem_cons.mpr ⟨tab_of (OT _ (.head _) _ (PySem.W.mg_of X G a20)) l20 rfl kc20 kv20, fun _ h => nomatch h⟩, List.forall_mem_cons.mpr ⟨kn20, fun _ h => nomatch h⟩, List.forall_mem_cons.mpr ⟨PySem.W.codeHd_of_K X kh20, fun _ h => nomatch h⟩, List.forall_mem_cons.mpr ⟨(.head _), fun _ h => nomatch h⟩, fun s u => .of_eq rfl, LT, fun base _ _ sm TB => all_ok M (List.forall_mem_cons.mpr ⟨TB _ (.head _), fun _ h => nomatch h⟩) sm 57 i448_law (by decide)⟩
end Lr.Own
namespace Lr.Own
open PySem PySem.Spec L2 Lr
theorem pred_of {k m : Nat} (h : m + 1 ≤ k) : ∃ j, k = j + 1 ∧ m ≤ j := ⟨k - 1, by omega, by omega⟩
theorem TK (k : Nat) (h : 1 ≤ k) : TakeOk (T k i2_law_take) := by
  obtain ⟨j, rfl, h⟩ := pred_of h
  exact fun n many h1 h2 => take_draws (T j) h1 h2
theorem TF (k : Nat) (h : 2 ≤ k) : OfOk (T k i3_law_of) := by
  obtain ⟨j, rfl, h⟩ := pred_of h
  exact of_ok (T j) (TK j (by omega))
theorem TF2 (k : Nat) (h : 2 ≤ k) : OfOk2 (T k i3_law_of) := by
  obtain ⟨j, rfl, h⟩ := pred_of h
  exact of_ok2 (T j) (TK j (by omega))
theorem TN (k : Nat) (h : 2 ≤ k) : NamesOk (T k i7_law_names) := by
  obtain ⟨j, rfl, h⟩ := pred_of h
  exact names_ok (T j) (TK j (by omega))
theorem TI (k : Nat) (h : 3 ≤ k) : InsOk (T k i4_law_instruction) := by
  obtain ⟨j, rfl, h⟩ := pred_of h
  exact instr_ok (T j) (TK j (by omega)) (TF2 j (by omega))
theorem TT : ∀ (d k : Nat), d + 4 ≤ k → TreeOk (T k i5_law_tree) (d + 1)
  | 0, k, h => by
    obtain ⟨j, rfl, h⟩ := pred_of h
    exact tree_ok (T j) (TK j (by omega)) (TF j (by omega)) (TI j (by omega)) 0 (fun z => absurd z (by omega))
  | d + 1, k, h => by
    obtain ⟨j, rfl, h⟩ := pred_of (m := d + 4) (by omega)
    exact tree_ok (T j) (TK j (by omega)) (TF j (by omega)) (TI j (by omega)) (d + 1) (fun _ => TT d j (by omega))
theorem NO : ∀ (d k : Nat), d ≤ k → NodesOk (T k i6_law_nodes) d
  | 0, k, h => fun N t _ hd => absurd (Tr.dep_pos t) (by omega)
  | d + 1, k, h => by
    obtain ⟨j, rfl, h⟩ := pred_of h
    exact nodes_ok (T j) d (NO d j (by omega))
theorem TS (k : Nat) (h : 3 ≤ k) : ∀ n, Draws (T k i14_law_size) n [.loc n] 1 (fun v => ∃ i : Int, v = .int i ∧ 4 ≤ i ∧ i ≤ 40) := by
  obtain ⟨j, rfl, h⟩ := pred_of h
  exact fun n => size_ok (T j) (TF j (by omega)) n
theorem TP (k : Nat) (h : 20 ≤ k) : ProgOk (T k i15_law_program) := by
  obtain ⟨j, rfl, h⟩ := pred_of h
  refine program_ok (T j) (TK j (by omega)) (TF j (by omega)) (TF2 j (by omega)) (TN j (by omega)) (fun d h1 h2 => ?_) (NO 7 j (by omega))
  obtain ⟨e, rfl, _⟩ := pred_of h1
  exact TT e j (by omega)
theorem PA (k : Nat) (h : 1 ≤ k) : PartsOk (T k i19_parts_of) := by
  obtain ⟨j, rfl, h⟩ := pred_of h
  exact parts_ok (T j)
theorem I1 : ∀ (d k : Nat), d + 1 ≤ k → InstrsOk (T k i20_instructions) d
  | 0, k, h => fun N t _ hd => absurd (Tr.dep_pos t) (by omega)
  | d + 1, k, h => by
    obtain ⟨j, rfl, h⟩ := pred_of (m := d + 1) h
    exact instrs_ok (T j) (PA j (by omega)) d (I1 d j (by omega))
theorem I2 : ∀ (d k : Nat), d ≤ k → ListedOk (T k i23_law_listed) d
  | 0, k, h => fun N t _ hd => absurd (Tr.dep_pos t) (by omega)
  | d + 1, k, h => by
    obtain ⟨j, rfl, h⟩ := pred_of h
    exact listed_ok (T j) d (I2 d j (by omega))
theorem TSm (k : Nat) (h : 21 ≤ k) : SomeOk (T k i25_law_some_programs) := by
  obtain ⟨j, rfl, h⟩ := pred_of h
  exact some_ok (T j) (TF j (by omega)) (TN j (by omega)) (TI j (by omega)) (TS j (by omega)) (TP j (by omega))
theorem TO (k : Nat) (h : 3 ≤ k) : OddF (T k i8_law_odd) := by
  obtain ⟨j, rfl, h⟩ := pred_of h
  exact oddF_ok (T j) (TF j (by omega))
theorem CK (k : Nat) (h : 11 ≤ k) : CheckOk (T k i29_check_number) := by
  obtain ⟨j, rfl, h⟩ := pred_of h
  exact check_ok (T j) (I1 9 j (by omega))
theorem NU (k : Nat) (h : 1 ≤ k) : IsNumOk (T k i46_law_is_number) := by
  obtain ⟨j, rfl, h⟩ := pred_of h
  exact isnum_ok (T j)
theorem CU : ∀ (d k : Nat), d ≤ 9 → d + 11 ≤ k → CutOk (T k i30_cut_from) d
  | 0, k, _, h => fun N t _ _ hd => absurd (Tr.dep_pos t) (by omega)
  | d + 1, k, h9, h => by
    obtain ⟨j, rfl, h⟩ := pred_of (m := d + 11) (by omega)
    exact cut_ok (T j) (I1 9 j (by omega)) d h9 (CU d j (by omega) (by omega))
theorem LC : ∀ (d k : Nat), d ≤ k → LCutOk (T k i31_law_cut) d
  | 0, k, h => fun N t _ _ hd => absurd (Tr.dep_pos t) (by omega)
  | d + 1, k, h => by
    obtain ⟨j, rfl, h⟩ := pred_of h
    exact lcut_ok (T j) d (LC d j (by omega))
theorem law_true (ns : List Int) (h : ns.length ≤ 63) (hb : ∀ i ∈ ns, Builtin.Int.intBits i ≤ 1048576) : ∃ μ, T 57 i448_law [.scr ns] [] = .ok (.bl true) μ := by
  have z := (law03_ok (T 56) (hand_ok (T 55)) (TK 56 (by decide)) (TSm 56 (by decide)) (TO 56 (by decide)) (I2 9 56 (by decide)) (NU 56 (by decide)) (LC 9 56 (by decide)) (left_ok (T 55) (CK 55 (by decide)) (CU 9 55 (by decide) (by decide))) ns).elim
  obtain ⟨v, μ, e, rfl⟩ := z
  exact ⟨μ, e⟩
end Lr.Own
open PySem PySem.W PyProof.Rows
set_option maxHeartbeats 0 in
theorem PySem.Challenge.cw_leanrefs_k03_instructions_left_out_holds : PySem.Challenge.rw_leanrefs_k03_instructions_left_out.Holds := by
  w_on; o_law; k_head; (case hw => w_witness2)
  k_fill
  refine Lr.law_walkN ["law"] (l := PySem.Challenge.rw_leanrefs_k03_instructions_left_out) (n := 63) (k := 174) (x := "_law_script") rfl (by decide) rfl ⟨rfl, by decide, by decide⟩ (by decide +kernel) (by decide +kernel) (fun w h Y => by first | exact PySem.W.kIn_of Y | exact PySem.W.km_in_of Y) ?F
  case F =>
    intro w mg fa h Y9 KX G hmg OT
    refine' Lr.Own.all_mk KX G hmg Lr.Own.law_true OT ?a0 ?l0 ?d0 ?k0 ?a1 ?l1 ?d1 ?k1 ?a2 ?l2 ?d2 ?k2 ?a3 ?l3 ?d3 ?k3 ?a4 ?l4 ?d4 ?k4 ?a5 ?l5 ?d5 ?k5 ?a6 ?l6 ?d6 ?k6 ?a7 ?l7 ?d7 ?k7 ?a8 ?l8 ?d8 ?k8 ?a9 ?l9 ?d9 ?k9 ?a10 ?l10 ?d10 ?k10 ?a11 ?l11 ?d11 ?k11 ?a12 ?l12 ?d12 ?k12 ?a13 ?l13 ?d13 ?k13 ?a14 ?l14 ?d14 ?k14 ?a15 ?l15 ?d15 ?k15 ?a16 ?l16 ?d16 ?k16 ?a17 ?l17 ?d17 ?k17 ?a18 ?l18 ?d18 ?k18 ?a19 ?l19 ?d19 ?k19 ?a20 ?l20 ?d20 ?k20 ?kc20 ?kv20 ?kn20 ?kh20 ?xa0 ?xL0 ?xb0 ?xc0 ?xd0 ?xe0 ?xf0 ?xg0 ?xh0 ?xa1 ?xL1 ?xb1 ?xc1 ?xd1 ?xe1 ?xf1 ?xg1 ?xh1 ?xi1 ?xj1 ?xl1 ?xm1 ?xn1 ?xa2 ?xL2 ?xb2 ?xc2 ?xd2 ?xe2 ?xf2 ?xg2 ?xh2 ?xi2 ?xj2 ?xl2 ?xm2 ?xn2 ?xa3 ?xL3 ?xb3 ?xc3 ?xd3 ?xe3 ?xf3 ?xg3 ?xh3 ?xi3 ?xj3 ?xl3 ?xm3 ?xn3 ?xa4 ?xL4 ?xb4 ?xc4 ?xd4 ?xe4 ?xf4 ?xg4 ?xh4 ?xi4 ?xj4 ?xl4 ?xm4 ?xn4 ?xa5 ?xL5 ?xb5 ?xc5 ?xd5 ?xe5 ?xf5 ?xg5 ?xh5 ?xi5 ?xj5 ?xl5 ?xm5 ?xn5 ?xa6 ?xL6 ?xb6 ?xc6 ?xd6 ?xe6 ?xf6 ?xg6 ?xh6 ?xi6 ?xj6 ?xl6 ?xm6 ?xn6 ?xa11 ?xL11 ?xb11 ?xc11 ?xd11 ?xe11 ?xf11 ?xg11 ?xh11 ?xi11 ?xj11 ?xl11 ?xm11 ?xn11 ?ys ?yr ?yv ?yn ?yt ?nd ?c_LOOP ?c_SEQ ?c_BRANCH ?c_EMPTY ?uEMPTY_0 ?uEMPTY_1 ?ndp ?z_tuple ?z_isinstance ?z_int ?z_bool ?z_len ?z_abs ?z_min ?z_range ?z_sum ?z_max ?z_ValueError ?z_repr ?z_list
    (case a0 => k_is); (case a1 => k_is); (case a2 => k_is); (case a3 => k_is); (case a4 => k_is); (case a5 => k_is); (case a6 => k_is); (case a7 => k_is); (case a8 => k_is); (case a9 => k_is); (case a10 => k_is); (case a11 => k_is); (case a12 => k_is); (case a13 => k_is); (case a14 => k_is); (case a15 => k_is); (case a16 => k_is); (case a17 => k_is); (case a18 => k_is); (case a19 => k_is); (case a20 => k_is); (case l0 => k_is); (case d0 => k_is); (case k0 => k_is); (case l1 => k_is); (case d1 => k_is); (case k1 => k_is); (case l2 => k_is); (case d2 => k_is); (case k2 => k_is); (case l3 => k_is); (case d3 => k_is); (case k3 => k_is); (case l4 => k_is); (case d4 => k_is); (case k4 => k_is); (case l5 => k_is); (case d5 => k_is); (case k5 => k_is); (case l6 => k_is); (case d6 => k_is); (case k6 => k_is); (case l7 => k_is); (case d7 => k_is); (case k7 => k_is); (case l8 => k_is); (case d8 => k_is); (case k8 => k_is); (case l9 => k_is); (case d9 => k_is); (case k9 => k_is); (case l10 => k_is); (case d10 => k_is); (case k10 => k_is); (case l11 => k_is); (case d11 => k_is); (case k11 => k_is); (case l12 => k_is); (case d12 => k_is); (case k12 => k_is); (case l13 => k_is); (case d13 => k_is); (case k13 => k_is); (case l14 => k_is); (case d14 => k_is); (case k14 => k_is); (case l15 => k_is); (case d15 => k_is); (case k15 => k_is); (case l16 => k_is); (case d16 => k_is); (case k16 => k_is); (case l17 => k_is); (case d17 => k_is); (case k17 => k_is); (case l18 => k_is); (case d18 => k_is); (case k18 => k_is); (case l19 => k_is); (case d19 => k_is); (case k19 => k_is); (case l20 => k_is); (case d20 => k_is); (case k20 => k_is); (case kc20 => k_is); (case kv20 => rfl); (case kn20 => kernel_rfl); (case kh20 => kernel_rfl); (case xa0 => k_is); (case xL0 => k_is); (case xb0 => k_is); (case xc0 => k_is); (case xd0 => k_is); (case xe0 => k_is); (case xf0 => k_is); (case xg0 => k_is); (case xh0 => k_is); (case xa1 => k_is); (case xL1 => k_is); (case xb1 => k_is); (case xc1 => k_is); (case xd1 => k_is); (case xe1 => k_is); (case xf1 => k_is); (case xg1 => k_is); (case xh1 => k_is); (case xi1 => k_is); (case xj1 => k_is); (case xl1 => k_is); (case xm1 => k_is); (case xn1 => k_is); (case xa2 => k_is); (case xL2 => k_is); (case xb2 => k_is); (case xc2 => k_is); (case xd2 => k_is); (case xe2 => k_is); (case xf2 => k_is); (case xg2 => k_is); (case xh2 => k_is); (case xi2 => k_is); (case xj2 => k_is); (case xl2 => k_is); (case xm2 => k_is); (case xn2 => k_is); (case xa3 => k_is); (case xL3 => k_is); (case xb3 => k_is); (case xc3 => k_is); (case xd3 => k_is); (case xe3 => k_is); (case xf3 => k_is); (case xg3 => k_is); (case xh3 => k_is); (case xi3 => k_is); (case xj3 => k_is); (case xl3 => k_is); (case xm3 => k_is); (case xn3 => k_is); (case xa4 => k_is); (case xL4 => k_is); (case xb4 => k_is); (case xc4 => k_is); (case xd4 => k_is); (case xe4 => k_is); (case xf4 => k_is); (case xg4 => k_is); (case xh4 => k_is); (case xi4 => k_is); (case xj4 => k_is); (case xl4 => k_is); (case xm4 => k_is); (case xn4 => k_is); (case xa5 => k_is); (case xL5 => k_is); (case xb5 => k_is); (case xc5 => k_is); (case xd5 => k_is); (case xe5 => k_is); (case xf5 => k_is); (case xg5 => k_is); (case xh5 => k_is); (case xi5 => k_is); (case xj5 => k_is); (case xl5 => k_is); (case xm5 => k_is); (case xn5 => k_is); (case xa6 => k_is); (case xL6 => k_is); (case xb6 => k_is); (case xc6 => k_is); (case xd6 => k_is); (case xe6 => k_is); (case xf6 => k_is); (case xg6 => k_is); (case xh6 => k_is); (case xi6 => k_is); (case xj6 => k_is); (case xl6 => k_is); (case xm6 => k_is); (case xn6 => k_is); (case xa11 => k_is); (case xL11 => k_is); (case xb11 => k_is); (case xc11 => k_is); (case xd11 => k_is); (case xe11 => k_is); (case xf11 => k_is); (case xg11 => k_is); (case xh11 => k_is); (case xi11 => k_is); (case xj11 => k_is); (case xl11 => k_is); (case xm11 => k_is); (case xn11 => k_is); (case ys => k_is); (case yr => k_is); (case yv => k_is); (case yn => k_is); (case yt => k_is); (case nd => decide +kernel); (case c_LOOP => k_is); (case c_SEQ => k_is); (case c_BRANCH => k_is); (case c_EMPTY => k_is); (case uEMPTY_0 => k_is); (case uEMPTY_1 => k_is); (case ndp => decide +kernel); (case z_tuple => k_is); (case z_isinstance => k_is); (case z_int => k_is); (case z_bool => k_is); (case z_len => k_is); (case z_abs => k_is); (case z_min => k_is); (case z_range => k_is); (case z_sum => k_is); (case z_max => k_is); (case z_ValueError => k_is); (case z_repr => k_is); (case z_list => k_is)
